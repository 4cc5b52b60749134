import PyProof.Rows.All
import Wide.All
import OpenK.AllK
import Wide.FinOn
import HandS.ForMost
import HandS.ForExc
import HandS.Evl
import HandS.Lambda
import HandS.EndTab
import HandS.HeadWalk
import HandS.HeadHook4
import HandS.Walk
import HandS.Conv
import HandS.Wide
import HandS.WideMore
import HandS.Deep
import HandS.IsInst
import HandS.SortInts
import HandS.Style
import HandS.CallSlots
import PySem.Challenge.RW_againorder_k05_refused
import KE.KSortKey
import HandS.SortKw
import HandS.ExcCtx
import HandS.HotCalls
import HandS.ExcIs
import HandS.CallLocal
import KE.SortData
import KE.DataFind
import HandS.DeepEq
import HandS.ExcBuiltin
import HandS.Head0
import HandS.Head1
import HandS.Head2
set_option Elab.async false
set_option linter.all false
set_option maxRecDepth 100000
set_option maxHeartbeats 1000000
/-! AOBase: readings over plain typed data: what a slot holds (Cell), what stands (Mid), what a step leaves (Step); expressions (EvO, EvE, EvB), statements (Go). -/
namespace AO
universe u v
open PySem L2
abbrev Ex : Hp → Hp → Prop := Evl.Ex
abbrev Tabs := LamX.Tabs
abbrev ExtN := LamX.ExtN
/-- an object that is no table and none told by a property -/
def Pl (o : HO) : Prop := (∀ ps, o ≠ .tbl ps) ∧ ∀ f, o ≠ .ext f
theorem pl_lst {xs : List V} : Pl (.lst xs) := ⟨fun _ h => (nomatch h), fun _ h => (nomatch h)⟩
theorem pl_dK {xs : List (Key × V)} : Pl (.dK xs) := ⟨fun _ h => (nomatch h), fun _ h => (nomatch h)⟩
theorem pl_ins {C d : Addr} {fs : List (Str × V)} : Pl (.ins C d fs) := ⟨fun _ h => (nomatch h), fun _ h => (nomatch h)⟩
theorem pl_own {a : Addr} : Pl (.own a) := ⟨fun _ h => (nomatch h), fun _ h => (nomatch h)⟩
theorem pl_frz {o : Obj} {u : HO} : Pl (.frz o u) := ⟨fun _ h => (nomatch h), fun _ h => (nomatch h)⟩
def none0 : Hp := fun _ => none
def one (p : Addr) (o : HO) : Hp := fun b => if b = p then some o else none
def both (G F : Hp) : Hp := fun b => (G b).or (F b)
theorem one_some {p b : Addr} {o u : HO} (h : one p o b = some u) : b = p ∧ u = o := by
  unfold one at h
  by_cases e : b = p
  · rw [if_pos e] at h
    exact ⟨e, (Option.some.inj h).symm⟩
  · rw [if_neg e] at h
    cases h
theorem one_same {p : Addr} {o : HO} : one p o p = some o := if_pos rfl
theorem one_ne {p b : Addr} {o : HO} (h : b ≠ p) : one p o b = none := if_neg h
theorem both_some {G F : Hp} {b : Addr} {o : HO} (h : both G F b = some o) : G b = some o ∨ (G b = none ∧ F b = some o) := by
  unfold both at h
  cases e : G b with
  | none =>
    rw [e] at h
    exact .inr ⟨rfl, h⟩
  | some u =>
    rw [e] at h
    exact .inl h
theorem both_l {G F : Hp} {b : Addr} {o : HO} (h : G b = some o) : both G F b = some o := by
  unfold both
  rw [h] <;> rfl
theorem both_r {G F : Hp} {b : Addr} (h : G b = none) : both G F b = F b := by
  unfold both
  rw [h] <;> rfl
theorem ex_both {G F : Hp} : Ex G (both G F) := fun _ _ h => both_l h

/-- G: the part of H that stays; T: the tables -/
structure Mid (T : List (Addr × Str)) (G H : Hp) : Prop where
  ex : Ex G H
  nt : ∀ b ps, G b ≠ some (.tbl ps)
  tb : Tabs T H
structure Step (T : List (Addr × Str)) (G H G' H' : Hp) : Prop where
  m : Mid T G' H'
  g : Ex G G'
  h : ExtN H H'
  n : ∀ b o, H b = some o → (∀ ps, o ≠ .tbl ps) → G b = none → G' b = none
section
variable {T : List (Addr × Str)} {G H G' H' G2 H2 : Hp}
theorem Step.refl (m : Mid T G H) : Step T G H G H := ⟨m, fun _ _ h => h, LamX.ExtN.refl H, fun _ _ _ _ h => h⟩
theorem Step.trans (a : Step T G H G' H') (b : Step T G' H' G2 H2) : Step T G H G2 H2 :=
  ⟨b.m, Evl.Ex.trans a.g b.g, LamX.ExtN.trans a.h b.h, fun c o h1 h2 h3 => b.n c o (a.h c o h1 h2) h2 (a.n c o h1 h2 h3)⟩
/-- the heap grows by an object that is new -/
theorem Step.new {p : Addr} {o : HO} (m : Mid T G H) (hp : H p = none) (ho : Pl o) : Step T G H (upd G p o) (upd H p o) := by
  refine ⟨⟨fun b u e => ?_, fun b ps e => ?_, LamX.Tabs.ext m.tb (fun b u e => by rw [upd_ne (ne_of_none e hp)]; exact e)⟩, fun b u e => ?_, LamX.ExtN.of fun b u e => by rw [upd_ne (ne_of_none e hp)]; exact e, fun b u e _ n => ?_⟩
  · by_cases hb : b = p
    · subst hb
      rw [upd_same] at e ⊢
      exact e
    · rw [upd_ne hb] at e ⊢
      exact m.ex b u e
  · by_cases hb : b = p
    · subst hb
      rw [upd_same] at e
      exact ho.1 ps (Option.some.inj e)
    · rw [upd_ne hb] at e
      exact m.nt b ps e
  · have hb : b ≠ p := ne_of_none (m.ex b u e) hp
    rw [upd_ne hb]
    exact e
  · have hb : b ≠ p := ne_of_none e hp
    rw [upd_ne hb]
    exact n
/-- the same, G as it was -/
theorem Step.newH {p : Addr} {o : HO} (m : Mid T G H) (hp : H p = none) : Step T G H G (upd H p o) :=
  ⟨⟨fun b u e => by rw [upd_ne (ne_of_none (m.ex b u e) hp)]; exact m.ex b u e, m.nt, LamX.Tabs.ext m.tb (fun b u e => by rw [upd_ne (ne_of_none e hp)]; exact e)⟩, fun _ _ e => e, LamX.ExtN.of fun b u e => by rw [upd_ne (ne_of_none e hp)]; exact e, fun _ _ _ _ n => n⟩
theorem tabs_upd {T : List (Addr × Str)} {H : Hp} {p : Addr} {o u : HO} (t : Tabs T H) (h : H p = some o) (ho : Pl o) : Tabs T (upd H p u) := fun q hq => by
  obtain ⟨ps, h1, h2, h3⟩ := t q hq
  refine ⟨ps, ?_, h2, fun pos cv hc => ?_⟩
  · have hb : q.1 ≠ p := fun e => by
      rw [e, h] at h1
      exact ho.1 ps (Option.some.inj h1)
    rw [upd_ne hb]
    exact h1
  · obtain ⟨c, e1, e2⟩ := h3 pos cv hc
    refine ⟨c, e1, ?_⟩
    have hb : c ≠ p := fun e => by
      rw [e, h] at e2
      unfold LamX.CodeO at e2
      exact ho.2 _ (Option.some.inj e2)
    rw [upd_ne hb]
    exact e2
end

/-! ### what a value stands for -/
structure Rep (α : Type) where
  r : Hp → V → α → Prop
  mono : ∀ {G G' : Hp} {v : V} {x : α}, Ex G G' → r G v x → r G' v x
structure Own (α : Type) where
  r : Hp → Hp → V → α → Prop
  mono : ∀ {G G' F : Hp} {v : V} {x : α}, Ex G G' → r G F v x → r G' F v x
/-- an own thing, given out for good -/
def Frz {α : Type} (O : Own α) (R : Rep α) : Prop := ∀ G F v x, O.r G F v x → (∀ b, F b ≠ none → G b = none) → R.r (both G F) v x
inductive All2 {α : Type u} {β : Type v} (r : α → β → Prop) : List α → List β → Prop
  | nil : All2 r [] []
  | cons {a b l m} : r a b → All2 r l m → All2 r (a :: l) (b :: m)
namespace All2
variable {α : Type u} {β : Type v} {r : α → β → Prop}
theorem length : ∀ {l : List α} {m : List β}, All2 r l m → l.length = m.length
  | _, _, .nil => rfl
  | _, _, .cons _ t => congrArg Nat.succ t.length
theorem imp {s : α → β → Prop} (h : ∀ a b, r a b → s a b) : ∀ {l : List α} {m : List β}, All2 r l m → All2 s l m
  | _, _, .nil => .nil
  | _, _, .cons a t => .cons (h _ _ a) (t.imp h)
theorem get : ∀ {l : List α} {m : List β} {i : Nat} {b : β}, All2 r l m → m[i]? = some b → ∃ a, l[i]? = some a ∧ r a b
  | _, _, _, _, .nil, e => by simp at e
  | _, _, 0, _, .cons h _, e => by simp at e; subst e; exact ⟨_, rfl, h⟩
  | _, _, i + 1, b, .cons _ t, e => by
    obtain ⟨a, h1, h2⟩ := t.get (i := i) (b := b) (by simpa using e)
    exact ⟨a, by simpa using h1, h2⟩
theorem getl : ∀ {l : List α} {m : List β} {i : Nat} {a : α}, All2 r l m → l[i]? = some a → ∃ b, m[i]? = some b ∧ r a b
  | _, _, _, _, .nil, e => by simp at e
  | _, _, 0, _, .cons h _, e => by simp at e; subst e; exact ⟨_, rfl, h⟩
  | _, _, i + 1, a, .cons _ t, e => by
    obtain ⟨b, h1, h2⟩ := t.getl (i := i) (a := a) (by simpa using e)
    exact ⟨b, by simpa using h1, h2⟩
theorem set {a : α} {b : β} (h : r a b) : ∀ {l : List α} {m : List β} (i : Nat), All2 r l m → All2 r (l.set i a) (m.set i b)
  | _, _, _, .nil => .nil
  | _, _, 0, .cons _ t => .cons h t
  | _, _, i + 1, .cons q t => .cons q (t.set h i)
theorem append : ∀ {l l2 : List α} {m m2 : List β}, All2 r l m → All2 r l2 m2 → All2 r (l ++ l2) (m ++ m2)
  | _, _, _, _, .nil, s => s
  | _, _, _, _, .cons h t, s => .cons h (t.append s)
theorem snoc {l : List α} {m : List β} {a : α} {b : β} (t : All2 r l m) (h : r a b) : All2 r (l ++ [a]) (m ++ [b]) := t.append (.cons h .nil)
theorem take : ∀ {l : List α} {m : List β} (n : Nat), All2 r l m → All2 r (l.take n) (m.take n)
  | _, _, 0, _ => by simp; exact .nil
  | _, _, _ + 1, .nil => .nil
  | _, _, n + 1, .cons h t => .cons h (t.take n)
theorem drop : ∀ {l : List α} {m : List β} (n : Nat), All2 r l m → All2 r (l.drop n) (m.drop n)
  | _, _, 0, t => t
  | _, _, _ + 1, .nil => .nil
  | _, _, n + 1, .cons _ t => t.drop n
theorem eraseIdx : ∀ {l : List α} {m : List β} (n : Nat), All2 r l m → All2 r (l.eraseIdx n) (m.eraseIdx n)
  | _, _, _, .nil => .nil
  | _, _, 0, .cons _ t => t
  | _, _, n + 1, .cons h t => .cons h (t.eraseIdx n)
theorem reverse : ∀ {l : List α} {m : List β}, All2 r l m → All2 r l.reverse m.reverse
  | _, _, .nil => .nil
  | _, _, .cons h t => by
    rw [List.reverse_cons, List.reverse_cons]
    exact t.reverse.snoc h
theorem replicate {a : α} {b : β} (h : r a b) : ∀ n, All2 r (List.replicate n a) (List.replicate n b)
  | 0 => .nil
  | n + 1 => .cons h (replicate h n)
end All2

def rI : Rep Int := ⟨fun _ v i => v = .int i, fun _ h => h⟩
def rN : Rep Nat := ⟨fun _ v i => v = .int (i : Int), fun _ h => h⟩
def rB : Rep Bool := ⟨fun _ v b => v = .bl b, fun _ h => h⟩
def rU : Rep Unit := ⟨fun _ v _ => v = .non, fun _ h => h⟩
/-- any value, as it is -/
def rV : Rep V := ⟨fun _ v x => v = x, fun _ h => h⟩
def rL {α : Type} (R : Rep α) : Rep (List α) := ⟨fun G v xs => ∃ a vs, v = .ref a ∧ G a = some (.lst vs) ∧ vs.length ≤ 100000 ∧ All2 (R.r G) vs xs, fun e ⟨a, vs, h1, h2, hl, h3⟩ => ⟨a, vs, h1, e _ _ h2, hl, h3.imp fun _ _ => R.mono e⟩⟩
/-- a list that may stand fast (the script) -/
def rLs (K : PySem.W.Frag) {α : Type} (R : Rep α) : Rep (List α) := ⟨fun G v xs => ∃ a vs, v = .ref a ∧ SqL K G a vs ∧ vs.length ≤ 100000 ∧ All2 (R.r G) vs xs, fun e ⟨a, vs, h1, h2, hl, h3⟩ => ⟨a, vs, h1, Evl.ex_l e h2, hl, h3.imp fun _ _ => R.mono e⟩⟩
def rP {α β : Type} (R : Rep α) (S : Rep β) : Rep (α × β) := ⟨fun G v x => ∃ a u w, v = .ref a ∧ G a = some (.tup [u, w]) ∧ R.r G u x.1 ∧ S.r G w x.2, fun e ⟨a, u, w, h1, h2, h3, h4⟩ => ⟨a, u, w, h1, e _ _ h2, R.mono e h3, S.mono e h4⟩⟩
/-- a tuple of things of one kind -/
def rT {α : Type} (R : Rep α) : Rep (List α) := ⟨fun G v xs => ∃ a vs, v = .ref a ∧ G a = some (.tup vs) ∧ vs.length ≤ 100000 ∧ All2 (R.r G) vs xs, fun e ⟨a, vs, h1, h2, hl, h3⟩ => ⟨a, vs, h1, e _ _ h2, hl, h3.imp fun _ _ => R.mono e⟩⟩
/-- a dict with keys that are ints -/
def rD {α : Type} (R : Rep α) : Rep (List (Int × α)) := ⟨fun G v xs => ∃ a kvs, v = .ref a ∧ G a = some (.dK kvs) ∧ kvs.length ≤ 100000 ∧ All2 (fun (p : Key × V) (q : Int × α) => p.1 = .inl q.1 ∧ R.r G p.2 q.2) kvs xs,
  fun e ⟨a, vs, h1, h2, hl, h3⟩ => ⟨a, vs, h1, e _ _ h2, hl, h3.imp fun _ _ h => ⟨h.1, R.mono e h.2⟩⟩⟩
def oL {α : Type} (R : Rep α) : Own (List α) := ⟨fun G F v xs => ∃ p vs, v = .ref p ∧ F = one p (.lst vs) ∧ vs.length ≤ 100000 ∧ All2 (R.r G) vs xs, fun e ⟨a, vs, h1, h2, hl, h3⟩ => ⟨a, vs, h1, h2, hl, h3.imp fun _ _ => R.mono e⟩⟩
def oD {α : Type} (R : Rep α) : Own (List (Int × α)) := ⟨fun G F v xs => ∃ p kvs, v = .ref p ∧ F = one p (.dK kvs) ∧ kvs.length ≤ 100000 ∧ All2 (fun (p : Key × V) (q : Int × α) => p.1 = .inl q.1 ∧ R.r G p.2 q.2) kvs xs,
  fun e ⟨a, vs, h1, h2, hl, h3⟩ => ⟨a, vs, h1, h2, hl, h3.imp fun _ _ h => ⟨h.1, R.mono e h.2⟩⟩⟩
theorem frz_L {α : Type} {R : Rep α} : Frz (oL R) (rL R) := fun G F v xs ⟨p, vs, h1, h2, hl, h3⟩ hd => by
  have hp : G p = none := hd p (by rw [h2, one_same]; simp)
  exact ⟨p, vs, h1, by rw [both_r hp, h2, one_same], hl, h3.imp fun _ _ => R.mono ex_both⟩
theorem frz_D {α : Type} {R : Rep α} : Frz (oD R) (rD R) := fun G F v xs ⟨p, vs, h1, h2, hl, h3⟩ hd => by
  have hp : G p = none := hd p (by rw [h2, one_same]; simp)
  exact ⟨p, vs, h1, by rw [both_r hp, h2, one_same], hl, h3.imp fun _ _ h => ⟨h.1, R.mono ex_both h.2⟩⟩

/-! ### slots -/
inductive Cell : Type 1
  | no
  | val {α : Type} (R : Rep α) (x : α)
  | own {α : Type} (O : Own α) (x : α)
def Cell.holds (G F : Hp) (s : Option (Option V)) : Cell → Prop
  | .no => True
  | .val R x => ∃ v, s = some (some v) ∧ R.r G v x
  | .own O x => ∃ v, s = some (some v) ∧ O.r G F v x
theorem Cell.mono {G G' F : Hp} {s : Option (Option V)} (e : Ex G G') : ∀ {c : Cell}, c.holds G F s → c.holds G' F s
  | .no, _ => trivial
  | .val R _, ⟨v, h1, h2⟩ => ⟨v, h1, R.mono e h2⟩
  | .own O _, ⟨v, h1, h2⟩ => ⟨v, h1, O.mono e h2⟩
/-- nothing stands there, or a table -/
def Nw (H : Hp) (b : Addr) : Prop := ∀ o, H b = some o → ∃ ps, o = .tbl ps
theorem nw_none {H : Hp} {b : Addr} (h : H b = none) : Nw H b := fun o e => by
  rw [h] at e
  cases e
theorem Nw.back {H H' : Hp} {b : Addr} (e : ExtN H H') (h : Nw H' b) : Nw H b := fun o ho => by
  by_cases z : ∃ ps, o = .tbl ps
  · exact z
  · exact h o (e b o ho fun ps hp => z ⟨ps, hp⟩)
theorem Nw.pl {H : Hp} {b : Addr} {o : HO} (h : Nw H b) (e : H b = some o) (p : Pl o) : False := by
  obtain ⟨ps, hp⟩ := h o e
  exact p.1 ps hp
structure EnvR (H0 G H : Hp) (σ : St) (F : Nat → Hp) (es : List Cell) : Prop where
  at_ : ∀ (i : Nat) (c : Cell), es[i]? = some c → c.holds G (F i) σ[i]?
  sub : ∀ (i : Nat) (b : Addr) (o : HO), F i b = some o → H b = some o ∧ G b = none ∧ Nw H0 b ∧ Pl o
  dis : ∀ (i j : Nat) (b : Addr), i ≠ j → F i b ≠ none → F j b = none
structure At (T : List (Addr × Str)) (G0 H0 G H : Hp) (σ : St) (F : Nat → Hp) (es : List Cell) : Prop where
  st : Step T G0 H0 G H
  ln : es.length = σ.length
  en : EnvR H0 G H σ F es
/-- what is new: it stands in H', not in G', and did not stand in H -/
def Fresh (G' H' H F : Hp) : Prop := ∀ b o, F b = some o → H' b = some o ∧ G' b = none ∧ Nw H b ∧ Pl o
section
variable {T : List (Addr × Str)} {G0 H0 G H G' H' G2 H2 : Hp} {σ : St} {F : Nat → Hp} {es : List Cell}
theorem EnvR.step (e : EnvR H0 G H σ F es) (s : Step T G H G' H') : EnvR H0 G' H' σ F es :=
  ⟨fun i c h => Cell.mono s.g (e.at_ i c h), fun i b o h => by
    obtain ⟨h1, h2, h3, h4⟩ := e.sub i b o h
    exact ⟨s.h b o h1 h4.1, s.n b o h1 h4.1 h2, h3, h4⟩, e.dis⟩
theorem At.step (e : At T G0 H0 G H σ F es) (s : Step T G H G' H') : At T G0 H0 G' H' σ F es :=
  ⟨e.st.trans s, e.ln, e.en.step s⟩
theorem At.m (e : At T G0 H0 G H σ F es) : Mid T G H := e.st.m
theorem Fresh.step {F : Hp} (f : Fresh G' H' H F) (s : Step T G' H' G2 H2) : Fresh G2 H2 H F := fun b o h => by
  obtain ⟨h1, h2, h3, h4⟩ := f b o h
  exact ⟨s.h b o h1 h4.1, s.n b o h1 h4.1 h2, h3, h4⟩
theorem Fresh.back {F : Hp} (f : Fresh G2 H2 H' F) (e : ExtN H H') : Fresh G2 H2 H F := fun b o h => by
  obtain ⟨h1, h2, h3, h4⟩ := f b o h
  exact ⟨h1, h2, h3.back e, h4⟩
theorem fresh_none : Fresh G' H' H none0 := fun b o h => (nomatch h)
/-- an own thing is given out for good: it becomes a part of what stays -/
theorem step_frz {F : Hp} (s : Step T G H G' H') (f : Fresh G' H' H F) : Step T G H (both G' F) H' :=
  ⟨⟨fun b o h => by
      rcases both_some h with h | ⟨_, h⟩
      · exact s.m.ex b o h
      · exact (f b o h).1,
    fun b ps h => by
      rcases both_some h with h | ⟨_, h⟩
      · exact s.m.nt b ps h
      · exact (f b _ h).2.2.2.1 ps rfl, s.m.tb⟩,
   fun b o h => both_l (s.g b o h), s.h, fun b o h1 h2 h3 => by
      rw [both_r (s.n b o h1 h2 h3)]
      cases e : F b with
      | none => rfl
      | some u =>
        obtain ⟨ps, hp⟩ := (f b u e).2.2.1 o h1
        exact absurd hp (h2 ps)⟩
end

/-! ### expressions -/
section
variable (T : List (Addr × Str))
/-- te gives an own x -/
def EvO {α : Type} (O : Own α) (te : TE) (es : List Cell) (x : α) : Prop := ∀ (G0 H0 G H : Hp) (σ : St) (F : Nat → Hp), At T G0 H0 G H σ F es → ∀ Q : VK, (∀ v G' H' F', Step T G H G' H' → Fresh G' H' H F' → O.r G' F' v x → Q v H') → te σ H Q
def EvE {α : Type} (R : Rep α) (te : TE) (es : List Cell) (x : α) : Prop := ∀ (G0 H0 G H : Hp) (σ : St) (F : Nat → Hp), At T G0 H0 G H σ F es → ∀ Q : VK, (∀ v G' H', Step T G H G' H' → R.r G' v x → Q v H') → te σ H Q
def EvB (tt : TT) (es : List Cell) (b : Bool) : Prop := ∀ (G0 H0 G H : Hp) (σ : St) (F : Nat → Hp), At T G0 H0 G H σ F es → ∀ Q : Bool → Hp → Prop, (∀ G' H', Step T G H G' H' → Q b H') → tt σ H Q
/-- arguments: their cells (val, no own) -/
def HoldA (G : Hp) : List V → List Cell → Prop := All2 fun (v : V) (c : Cell) => c.holds G none0 (some (some v))
def EvA (ta : TA) (es : List Cell) (cs : List Cell) : Prop := ∀ (G0 H0 G H : Hp) (σ : St) (F : Nat → Hp), At T G0 H0 G H σ F es → ∀ Q : List V → Hp → Prop, (∀ vs G' H', Step T G H G' H' → HoldA G' vs cs → Q vs H') → ta σ H Q
end
theorem HoldA.mono {G G' : Hp} {vs : List V} {cs : List Cell} (e : Ex G G') (h : HoldA G vs cs) : HoldA G' vs cs := All2.imp (fun _ _ h => Cell.mono e h) h
section
variable {T : List (Addr × Str)} {es : List Cell} {α β γ : Type} {R : Rep α} {S : Rep β} {U : Rep γ} {O : Own α} {ta tb te : TE} {x : α} {y : β} {z : γ}
theorem ev_frz (f : Frz O R) (h : EvO T O te es x) : EvE T R te es x := fun G0 H0 G H σ F m Q q => h G0 H0 G H σ F m Q fun v G' H' F' s fr r =>
  q v _ _ (step_frz s fr) (f _ _ _ _ r fun b hb => by
    cases e : F' b with
    | none => exact absurd e hb
    | some u => exact (fr b u e).2.1)
theorem ev_var {i : Nat} (h : es[i]? = some (.val R x)) : EvE T R (tVar i) es x := fun G0 H0 G H σ F m Q q => by
  obtain ⟨v, h1, h2⟩ := m.en.at_ i _ h
  exact ⟨v, h1, q v G H (Step.refl m.m) h2⟩
theorem ev_int {i : Int} : EvE T rI (tC (.int i)) es i := fun _ _ G H _ _ m Q q => q _ G H (Step.refl m.m) rfl
theorem ev_nat {n : Nat} : EvE T rN (tC (.int (n : Int))) es n := fun _ _ G H _ _ m Q q => q _ G H (Step.refl m.m) rfl
theorem ev_bl {b : Bool} : EvE T rB (tC (.bl b)) es b := fun _ _ G H _ _ m Q q => q _ G H (Step.refl m.m) rfl
theorem ev_non : EvE T rU (tC .non) es () := fun _ _ G H _ _ m Q q => q _ G H (Step.refl m.m) rfl
/-- a rule on values, of two places -/
def Op2 (T : List (Addr × Str)) (r : R2) (R : Rep α) (x : α) (S : Rep β) (y : β) (U : Rep γ) (z : γ) : Prop := ∀ (G H : Hp) (v w : V) (Q : VK), Mid T G H → R.r G v x → S.r G w y → (∀ u G' H', Step T G H G' H' → U.r G' u z → Q u H') → r v w H Q
theorem ev_op {r : R2} (ha : EvE T R ta es x) (hb : EvE T S tb es y) (h : Op2 T r R x S y U z) : EvE T U (tOp r ta tb) es z := fun G0 H0 G H σ F m Q q =>
  ha G0 H0 G H σ F m _ fun v G1 H1 s1 r1 => hb G0 H0 G1 H1 σ F (m.step s1) _ fun w G2 H2 s2 r2 => h G2 H2 v w Q s2.m (R.mono s2.g r1) r2 fun u G3 H3 s3 r3 => q u G3 H3 ((s1.trans s2).trans s3) r3
def Op2O (T : List (Addr × Str)) (r : R2) (R : Rep α) (x : α) (S : Rep β) (y : β) (O : Own γ) (z : γ) : Prop := ∀ (G H : Hp) (v w : V) (Q : VK), Mid T G H → R.r G v x → S.r G w y → (∀ u G' H' F', Step T G H G' H' → Fresh G' H' H F' → O.r G' F' u z → Q u H') → r v w H Q
theorem ev_opO {r : R2} {O : Own γ} (ha : EvE T R ta es x) (hb : EvE T S tb es y) (h : Op2O T r R x S y O z) : EvO T O (tOp r ta tb) es z := fun G0 H0 G H σ F m Q q =>
  ha G0 H0 G H σ F m _ fun v G1 H1 s1 r1 => hb G0 H0 G1 H1 σ F (m.step s1) _ fun w G2 H2 s2 r2 => h G2 H2 v w Q s2.m (R.mono s2.g r1) r2 fun u G3 H3 F3 s3 fr r3 => q u G3 H3 F3 ((s1.trans s2).trans s3) (fr.back (s1.trans s2).h) r3
theorem ea_nil : EvA T tNil es [] := fun _ _ G H _ _ m Q q => q [] G H (Step.refl m.m) .nil
theorem ea_cons {tr : TA} {cs : List Cell} (h : EvE T R te es x) (hr : EvA T tr es cs) : EvA T (tCons te tr) es (.val R x :: cs) := fun G0 H0 G H σ F m Q q =>
  h G0 H0 G H σ F m _ fun v G1 H1 s1 r1 => hr G0 H0 G1 H1 σ F (m.step s1) _ fun vs G2 H2 s2 r2 => q (v :: vs) G2 H2 (s1.trans s2) (.cons ⟨v, rfl, R.mono s2.g r1⟩ r2)
/-- the very value, told twice -/
theorem ev_is {x2 : α} (h : EvE T R te es x) (e : x = x2) : EvE T R te es x2 := e ▸ h
theorem eo_is {x2 : α} (h : EvO T O te es x) (e : x = x2) : EvO T O te es x2 := e ▸ h
theorem eb_is {tt : TT} {b c : Bool} (h : EvB T tt es b) (e : b = c) : EvB T tt es c := e ▸ h
/-- one kind for another -/
def Sub (R : Rep α) (x : α) (S : Rep β) (y : β) : Prop := ∀ G v, R.r G v x → S.r G v y
theorem ev_sub (h : EvE T R te es x) (s : Sub R x S y) : EvE T S te es y := fun G0 H0 G H σ F m Q q => h G0 H0 G H σ F m Q fun v G1 H1 s1 r1 => q v G1 H1 s1 (s G1 v r1)
theorem sub_NI {n : Nat} {i : Int} (h : (n : Int) = i) : Sub rN n rI i := fun _ v e => by
  show v = .int i
  rw [← h]
  exact e
theorem sub_IN {n : Nat} {i : Int} (h : (n : Int) = i) : Sub rI i rN n := fun _ v e => by
  show v = .int (n : Int)
  rw [h]
  exact e
/-! tests -/
theorem eb_test {b : Bool} (h : EvE T rB te es b) : EvB T (tTest te) es b := fun G0 H0 G H σ F m Q q => h G0 H0 G H σ F m _ fun v G1 H1 s1 r1 => ⟨b, r1, q G1 H1 s1⟩
theorem eb_B {b : Bool} (h : EvE T rB te es b) : EvB T (tB te) es b := fun G0 H0 G H σ F m Q q => h G0 H0 G H σ F m _ fun v G1 H1 s1 r1 => ⟨b, r1, q G1 H1 s1⟩
theorem eb_not {t : TT} {b : Bool} (h : EvB T t es b) : EvB T (tNot t) es (!b) := fun G0 H0 G H σ F m Q q => h G0 H0 G H σ F m _ fun G1 H1 s1 => q G1 H1 s1
theorem eb_and {t u : TT} {a b : Bool} (h1 : EvB T t es a) (h2 : a = true → EvB T u es b) : EvB T (tAnd t u) es (a && b) := fun G0 H0 G H σ F m Q q => h1 G0 H0 G H σ F m _ fun G1 H1 s1 => by
  cases a with
  | true =>
    rw [if_pos rfl]
    exact h2 rfl G0 H0 G1 H1 σ F (m.step s1) Q fun G2 H2 s2 => q G2 H2 (s1.trans s2)
  | false =>
    rw [if_neg Bool.false_ne_true]
    exact q G1 H1 s1
theorem eb_or {t u : TT} {a b : Bool} (h1 : EvB T t es a) (h2 : a = false → EvB T u es b) : EvB T (tOr t u) es (a || b) := fun G0 H0 G H σ F m Q q => h1 G0 H0 G H σ F m _ fun G1 H1 s1 => by
  cases a with
  | true =>
    rw [if_pos rfl]
    exact q G1 H1 s1
  | false =>
    rw [if_neg Bool.false_ne_true]
    exact h2 rfl G0 H0 G1 H1 σ F (m.step s1) Q fun G2 H2 s2 => q G2 H2 (s1.trans s2)
theorem ev_andV {a b : Bool} (h1 : EvE T rB ta es a) (h2 : a = true → EvE T rB tb es b) : EvE T rB (tAndV ta tb) es (a && b) := fun G0 H0 G H σ F m Q q => h1 G0 H0 G H σ F m _ fun v G1 H1 s1 r1 => ⟨a, r1, by
  cases a with
  | true =>
    rw [if_pos rfl]
    exact h2 rfl G0 H0 G1 H1 σ F (m.step s1) Q fun v G2 H2 s2 r2 => q v G2 H2 (s1.trans s2) r2
  | false =>
    rw [if_neg Bool.false_ne_true]
    exact q _ G1 H1 s1 rfl⟩
theorem ev_orV {a b : Bool} (h1 : EvE T rB ta es a) (h2 : a = false → EvE T rB tb es b) : EvE T rB (tOrV ta tb) es (a || b) := fun G0 H0 G H σ F m Q q => h1 G0 H0 G H σ F m _ fun v G1 H1 s1 r1 => ⟨a, r1, by
  cases a with
  | true =>
    rw [if_pos rfl]
    exact q _ G1 H1 s1 rfl
  | false =>
    rw [if_neg Bool.false_ne_true]
    exact h2 rfl G0 H0 G1 H1 σ F (m.step s1) Q fun v G2 H2 s2 r2 => q v G2 H2 (s1.trans s2) r2⟩
theorem ev_notV {a : Bool} (h1 : EvE T rB ta es a) : EvE T rB (tNotV ta) es (!a) := fun G0 H0 G H σ F m Q q => h1 G0 H0 G H σ F m _ fun v G1 H1 s1 r1 => ⟨a, r1, q _ G1 H1 s1 rfl⟩
theorem ev_if {t : TT} {b : Bool} (h : EvB T t es b) (h1 : b = true → EvE T R ta es x) (h2 : b = false → EvE T R tb es x) : EvE T R (tIf t ta tb) es x := fun G0 H0 G H σ F m Q q => h G0 H0 G H σ F m _ fun G1 H1 s1 => by
  cases b with
  | true =>
    rw [if_pos rfl]
    exact h1 rfl G0 H0 G1 H1 σ F (m.step s1) Q fun v G2 H2 s2 r2 => q v G2 H2 (s1.trans s2) r2
  | false =>
    rw [if_neg Bool.false_ne_true]
    exact h2 rfl G0 H0 G1 H1 σ F (m.step s1) Q fun v G2 H2 s2 r2 => q v G2 H2 (s1.trans s2) r2
theorem ev_ifO {t : TT} {b : Bool} (h : EvB T t es b) (h1 : b = true → EvO T O ta es x) (h2 : b = false → EvO T O tb es x) : EvO T O (tIf t ta tb) es x := fun G0 H0 G H σ F m Q q => h G0 H0 G H σ F m _ fun G1 H1 s1 => by
  cases b with
  | true =>
    rw [if_pos rfl]
    exact h1 rfl G0 H0 G1 H1 σ F (m.step s1) Q fun v G2 H2 F2 s2 f2 r2 => q v G2 H2 F2 (s1.trans s2) (f2.back s1.h) r2
  | false =>
    rw [if_neg Bool.false_ne_true]
    exact h2 rfl G0 H0 G1 H1 σ F (m.step s1) Q fun v G2 H2 F2 s2 f2 r2 => q v G2 H2 F2 (s1.trans s2) (f2.back s1.h) r2
end
end AO
set_option Elab.async false
set_option linter.all false
set_option maxRecDepth 100000
set_option maxHeartbeats 1000000
/-! AOStmt: statements over typed cells. -/
namespace AO
universe u v
open PySem L2
section
variable {T : List (Addr × Str)} {G0 H0 G H : Hp} {σ : St} {F : Nat → Hp} {es es2 : List Cell} {α β γ : Type} {R : Rep α} {S : Rep β} {O : Own α} {x : α} {y : β}
def setF (F : Nat → Hp) (i : Nat) (f : Hp) : Nat → Hp := fun j => if j = i then f else F j
theorem setF_same {F : Nat → Hp} {i : Nat} {f : Hp} : setF F i f i = f := if_pos rfl
theorem setF_ne {F : Nat → Hp} {i j : Nat} {f : Hp} (h : j ≠ i) : setF F i f j = F j := if_neg h
theorem At.own (m : At T G0 H0 G H σ F es) {i : Nat} (h : es[i]? = some (.own O x)) : ∃ v, σ[i]? = some (some v) ∧ O.r G (F i) v x := m.en.at_ i _ h
theorem At.val (m : At T G0 H0 G H σ F es) {i : Nat} (h : es[i]? = some (.val R x)) : ∃ v, σ[i]? = some (some v) ∧ R.r G v x := m.en.at_ i _ h
theorem set_get {α : Type u} {l : List α} {i j : Nat} {a c : α} (h : (l.set i a)[j]? = some c) : (j = i ∧ c = a ∧ i < l.length) ∨ (j ≠ i ∧ l[j]? = some c) := by
  by_cases e : j = i
  · subst e
    by_cases hl : j < l.length
    · rw [List.getElem?_set_self hl] at h
      exact .inl ⟨rfl, (Option.some.inj h).symm, hl⟩
    · rw [List.getElem?_eq_none (by rw [List.length_set]; omega)] at h
      cases h
  · rw [List.getElem?_set_ne (Ne.symm e)] at h
    exact .inr ⟨e, h⟩
/-- slot i gets a value -/
theorem At.setG (m : At T G0 H0 G H σ F es) {i : Nat} {v : V} {c : Cell} {f : Hp} (hc : c.holds G f (some (some v))) (hf : ∀ b o, f b = some o → H b = some o ∧ G b = none ∧ Nw H0 b ∧ Pl o) (hd : ∀ j b, j ≠ i → f b ≠ none → F j b = none) :
    At T G0 H0 G H (σ.set i (some v)) (setF F i f) (es.set i c) := by
  refine ⟨m.st, by rw [List.length_set, List.length_set]; exact m.ln, fun j d h => ?_, fun j b o h => ?_, fun j k b hjk h => ?_⟩
  · rcases set_get h with ⟨rfl, rfl, hl⟩ | ⟨hj, h⟩
    · rw [setF_same, List.getElem?_set_self (by rw [← m.ln]; exact hl)]
      exact hc
    · rw [setF_ne hj, List.getElem?_set_ne (Ne.symm hj)]
      exact m.en.at_ j d h
  · by_cases e : j = i
    · subst e
      rw [setF_same] at h
      exact hf b o h
    · rw [setF_ne e] at h
      exact m.en.sub j b o h
  · by_cases e : j = i
    · subst e
      rw [setF_same] at h
      rw [setF_ne (Ne.symm hjk)]
      exact hd k b (Ne.symm hjk) h
    · rw [setF_ne e] at h
      by_cases e2 : k = i
      · subst e2
        rw [setF_same]
        cases z : f b with
        | none => rfl
        | some o => exact absurd (hd j b e (by rw [z]; simp)) h
      · rw [setF_ne e2]
        exact m.en.dis j k b hjk h
theorem At.set (m : At T G0 H0 G H σ F es) (i : Nat) {v : V} (hr : R.r G v x) : At T G0 H0 G H (σ.set i (some v)) (setF F i none0) (es.set i (.val R x)) :=
  m.setG ⟨v, rfl, hr⟩ (fun _ _ h => by cases h) fun _ _ _ h => absurd rfl h
theorem At.setO (m : At T G0 H0 G H σ F es) (i : Nat) {v : V} {f : Hp} {Hs : Hp} (hr : O.r G f v x) (fr : Fresh G H Hs f) (st : ExtN H0 Hs) (sb : ∀ j b o, F j b = some o → Hs b = some o) : At T G0 H0 G H (σ.set i (some v)) (setF F i f) (es.set i (.own O x)) :=
  m.setG ⟨v, rfl, hr⟩ (fun b o h => by
    obtain ⟨h1, h2, h3, h4⟩ := fr b o h
    exact ⟨h1, h2, h3.back st, h4⟩) fun j b _ h => by
    cases z : F j b with
    | none => rfl
    | some o =>
      cases z2 : f b with
      | none => exact absurd z2 h
      | some o2 => exact ((fr b o2 z2).2.2.1.pl (sb j b o z) (m.en.sub j b o z).2.2.2).elim
/-- some slots forgotten -/
inductive Wk : List Cell → List Cell → Prop
  | nil : Wk [] []
  | keep {c l m} : Wk l m → Wk (c :: l) (c :: m)
  | drop {c l m} : Wk l m → Wk (c :: l) (.no :: m)
theorem Wk.refl : ∀ {l : List Cell}, Wk l l
  | [] => .nil
  | _ :: _ => .keep Wk.refl
theorem Wk.length : ∀ {l m : List Cell}, Wk l m → m.length = l.length
  | _, _, .nil => rfl
  | _, _, .keep h => congrArg Nat.succ h.length
  | _, _, .drop h => congrArg Nat.succ h.length
theorem Wk.get : ∀ {l m : List Cell}, Wk l m → ∀ {i : Nat} {c : Cell}, m[i]? = some c → c = .no ∨ l[i]? = some c
  | _, _, .nil, _, _, h => by simp at h
  | _, _, .keep t, 0, c, h => .inr h
  | _, _, .drop t, 0, c, h => .inl (Option.some.inj h).symm
  | _, _, .keep t, i + 1, c, h => t.get (i := i) h
  | _, _, .drop t, i + 1, c, h => t.get (i := i) h
theorem At.wk (m : At T G0 H0 G H σ F es) (w : Wk es es2) : At T G0 H0 G H σ F es2 :=
  ⟨m.st, by rw [w.length]; exact m.ln, fun i c h => by
    rcases w.get h with rfl | h
    · trivial
    · exact m.en.at_ i c h, m.en.sub, m.en.dis⟩
theorem At.frz (m : At T G0 H0 G H σ F es) {i : Nat} (h : es[i]? = some (.own O x)) (f : Frz O R) : At T G0 H0 (both G (F i)) H σ (setF F i none0) (es.set i (.val R x)) := by
  obtain ⟨v, hv, hr⟩ := m.own h
  have st : Step T G0 H0 (both G (F i)) H := step_frz m.st fun b o hb => m.en.sub i b o hb
  refine ⟨st, by rw [List.length_set]; exact m.ln, fun j c hc => ?_, fun j b o hb => ?_, fun j k b hjk hb => ?_⟩
  · rcases set_get hc with ⟨rfl, rfl, _⟩ | ⟨hj, hc⟩
    · exact ⟨v, hv, f _ _ _ _ hr fun b hb => by
        cases e : F j b with
        | none => exact absurd e hb
        | some u => exact (m.en.sub j b u e).2.1⟩
    · rw [setF_ne hj]
      exact Cell.mono ex_both (m.en.at_ j c hc)
  · by_cases e : j = i
    · subst e
      rw [setF_same] at hb
      cases hb
    · rw [setF_ne e] at hb
      obtain ⟨h1, h2, h3, h4⟩ := m.en.sub j b o hb
      refine ⟨h1, ?_, h3, h4⟩
      rw [both_r h2]
      exact m.en.dis j i b e (by rw [hb]; simp)
  · by_cases e : j = i
    · subst e
      rw [setF_same] at hb
      exact absurd rfl hb
    · rw [setF_ne e] at hb
      by_cases e2 : k = i
      · subst e2
        rw [setF_same] <;> rfl
      · rw [setF_ne e2]
        exact m.en.dis j k b hjk hb
/-- the one object of slot i is another now -/
theorem At.upd {O' : Own β} {p : Addr} {o o' : HO} {i : Nat} {v : V} (m : At T G0 H0 G H σ F es) (hF : F i = one p o) (ho' : Pl o') (hv : σ[i]? = some (some v)) (hr : O'.r G (one p o') v y) :
    At T G0 H0 G (upd H p o') σ (setF F i (one p o')) (es.set i (.own O' y)) := by
  obtain ⟨h1, h2, h3, h4⟩ := m.en.sub i p o (by rw [hF, one_same])
  have ne : ∀ j b u, j ≠ i → F j b = some u → b ≠ p := fun j b u hj hb e => by
    have z := m.en.dis i j p (Ne.symm hj) (by rw [hF, one_same]; simp)
    rw [← e, hb] at z
    cases z
  refine ⟨⟨⟨fun b u e => ?_, m.m.nt, tabs_upd m.m.tb h1 h4⟩, m.st.g, fun b u e hn => ?_, m.st.n⟩, by rw [List.length_set]; exact m.ln, fun j c hc => ?_, fun j b u hb => ?_, fun j k b hjk hb => ?_⟩
  · rw [upd_ne (ne_of_none e h2)]
    exact m.m.ex b u e
  · have hb : b ≠ p := fun z => by
      rw [z] at e
      obtain ⟨ps, hp⟩ := h3 u e
      exact hn ps hp
    rw [upd_ne hb]
    exact m.st.h b u e hn
  · rcases set_get hc with ⟨rfl, rfl, _⟩ | ⟨hj, hc⟩
    · rw [setF_same]
      exact ⟨v, hv, hr⟩
    · rw [setF_ne hj]
      exact m.en.at_ j c hc
  · by_cases e : j = i
    · subst e
      rw [setF_same] at hb
      obtain ⟨rfl, rfl⟩ := one_some hb
      exact ⟨upd_same, h2, h3, ho'⟩
    · rw [setF_ne e] at hb
      rw [upd_ne (ne j b u e hb)]
      exact m.en.sub j b u hb
  · by_cases e : j = i
    · subst e
      rw [setF_same] at hb
      rw [setF_ne (Ne.symm hjk)]
      have hbp : b = p := by
        cases z : one p o' b with
        | none => exact absurd z hb
        | some u => exact (one_some z).1
      exact m.en.dis j k b hjk (by rw [hF, hbp, one_same]; simp)
    · rw [setF_ne e] at hb
      by_cases e2 : k = i
      · subst e2
        rw [setF_same]
        cases z : F j b with
        | none => exact absurd z hb
        | some u => exact one_ne (ne j b u e z)
      · rw [setF_ne e2]
        exact m.en.dis j k b hjk hb
end

/-! ### statements -/
section
variable (T : List (Addr × Str)) (G0 H0 : Hp)
def Go (t : TS) (D : Ends) (es : List Cell) : Prop := ∀ (G H : Hp) (σ : St) (F : Nat → Hp), At T G0 H0 G H σ F es → t D σ H
def To (N : St → Hp → Prop) (es : List Cell) : Prop := ∀ (G H : Hp) (σ : St) (F : Nat → Hp), At T G0 H0 G H σ F es → N σ H
/-- some state of these cells -/
def Some (P : List Cell → Prop) : St → Hp → Prop := fun σ H => ∃ es G F, P es ∧ At T G0 H0 G H σ F es
end
section
variable {T : List (Addr × Str)} {G0 H0 : Hp} {es es2 : List Cell} {α β γ : Type} {R : Rep α} {S : Rep β} {O : Own α} {x : α} {y : β} {te ta tb : TE} {D : Ends} {t u : TS} {K : PySem.W.Frag}
theorem To.some {P : List Cell → Prop} (h : P es) : To T G0 H0 (Some T G0 H0 P) es := fun G H σ F m => ⟨es, G, F, h, m⟩
theorem To.wk {N : St → Hp → Prop} (w : Wk es es2) (h : To T G0 H0 N es2) : To T G0 H0 N es := fun G H σ F m => h G H σ F (m.wk w)
theorem go_wk (w : Wk es es2) (h : Go T G0 H0 t D es2) : Go T G0 H0 t D es := fun G H σ F m => h G H σ F (m.wk w)
theorem go_next (h : To T G0 H0 D.nx es) : Go T G0 H0 tNext D es := h
theorem go_seq (h : Go T G0 H0 t { D with nx := u D } es) : Go T G0 H0 (tSeq t u) D es := h
theorem to_go (h : Go T G0 H0 u D es) : To T G0 H0 (Ends.nx { D with nx := u D }) es := h
theorem go_cut (M : List Cell → Prop) (h1 : Go T G0 H0 t { D with nx := Some T G0 H0 M } es) (h2 : ∀ es', M es' → Go T G0 H0 u D es') : Go T G0 H0 (Evl.tCut t u) D es := fun G H σ F m =>
  ⟨Some T G0 H0 M, h1 G H σ F m, fun σ' H' ⟨es', G', F', hM, m'⟩ => h2 es' hM G' H' σ' F' m'⟩
theorem go_frz (i : Nat) (R : Rep α) (h : es[i]? = some (.own O x)) (f : Frz O R) (k : Go T G0 H0 t D (es.set i (.val R x))) : Go T G0 H0 t D es := fun G H σ F m => k _ H σ _ (m.frz h f)
theorem to_frz {N : St → Hp → Prop} (i : Nat) (R : Rep α) (h : es[i]? = some (.own O x)) (f : Frz O R) (k : To T G0 H0 N (es.set i (.val R x))) : To T G0 H0 N es := fun G H σ F m => k _ H σ _ (m.frz h f)
theorem go_asg {i : Nat} (h : EvE T R te es x) (k : To T G0 H0 D.nx (es.set i (.val R x))) : Go T G0 H0 (tAsg te (gName i)) D es := fun G H σ F m =>
  h G0 H0 G H σ F m _ fun v G1 H1 s1 r1 => k G1 H1 _ _ ((m.step s1).set i r1)
theorem go_asgO {i : Nat} (h : EvO T O te es x) (k : To T G0 H0 D.nx (es.set i (.own O x))) : Go T G0 H0 (tAsg te (gName i)) D es := fun G H σ F m =>
  h G0 H0 G H σ F m _ fun v G1 H1 F1 s1 f1 r1 => k G1 H1 _ _ ((m.step s1).setO i r1 f1 m.st.h fun j b o e => (m.en.sub j b o e).1)
theorem go_drop (h : EvE T R te es x) (k : To T G0 H0 D.nx es) : Go T G0 H0 (tDrop te) D es := fun G H σ F m =>
  h G0 H0 G H σ F m _ fun v G1 H1 s1 _ => k G1 H1 _ _ (m.step s1)
theorem go_ret (h : EvE T R te es x) (k : ∀ v G H, Step T G0 H0 G H → R.r G v x → D.rt v H) : Go T G0 H0 (tRet te) D es := fun G H σ F m =>
  h G0 H0 G H σ F m _ fun v G1 H1 s1 r1 => k v G1 H1 (m.st.trans s1) r1
theorem go_retO (h : EvO T O te es x) (k : ∀ v G H F, Step T G0 H0 G H → Fresh G H H0 F → O.r G F v x → D.rt v H) : Go T G0 H0 (tRet te) D es := fun G H σ F m =>
  h G0 H0 G H σ F m _ fun v G1 H1 F1 s1 f1 r1 => k v G1 H1 F1 (m.st.trans s1) (f1.back m.st.h) r1
theorem go_retV {i : Nat} (h : es[i]? = some (.own O x)) (k : ∀ v G H F, Step T G0 H0 G H → Fresh G H H0 F → O.r G F v x → D.rt v H) : Go T G0 H0 (tRet (tVar i)) D es := fun G H σ F m => by
  obtain ⟨v, hv, hr⟩ := m.own h
  exact ⟨v, hv, k v G H (F i) m.st (fun b o e => m.en.sub i b o e) hr⟩
theorem go_retN (k : ∀ G H, Step T G0 H0 G H → D.rt .non H) : Go T G0 H0 tRetN D es := fun G H σ F m => k G H m.st
theorem go_if {tt : TT} {b : Bool} (h : EvB T tt es b) (h1 : b = true → Go T G0 H0 t D es) (h2 : b = false → Go T G0 H0 u D es) : Go T G0 H0 (tIfS tt t u) D es := fun G H σ F m =>
  h G0 H0 G H σ F m _ fun G1 H1 s1 => by
    cases b with
    | true =>
      rw [if_pos rfl]
      exact h1 rfl G1 H1 σ F (m.step s1)
    | false =>
      rw [if_neg Bool.false_ne_true]
      exact h2 rfl G1 H1 σ F (m.step s1)
theorem go_brk (h : To T G0 H0 D.bk es) : Go T G0 H0 tBreak D es := h
theorem go_parEE {i j : Nat} (hij : i ≠ j) (h1 : EvE T R ta es x) (h2 : EvE T S tb es y) (k : To T G0 H0 D.nx ((es.set i (.val R x)).set j (.val S y))) : Go T G0 H0 (tPar i j (tCons ta (tCons tb tNil))) D es := fun G H σ F m =>
  h1 G0 H0 G H σ F m _ fun v G1 H1 s1 r1 => h2 G0 H0 G1 H1 σ F (m.step s1) _ fun w G2 H2 s2 r2 => ⟨v, w, rfl, k G2 H2 _ _ ((((m.step s1).step s2).set i (R.mono s2.g r1)).set j r2)⟩
theorem go_parOE {i j : Nat} (h1 : EvO T O ta es x) (h2 : EvE T S tb es y) (k : To T G0 H0 D.nx ((es.set i (.own O x)).set j (.val S y))) : Go T G0 H0 (tPar i j (tCons ta (tCons tb tNil))) D es := fun G H σ F m =>
  h1 G0 H0 G H σ F m _ fun v G1 H1 F1 s1 f1 r1 => h2 G0 H0 G1 H1 σ F (m.step s1) _ fun w G2 H2 s2 r2 => ⟨v, w, rfl, k G2 H2 _ _ ((((m.step s1).step s2).setO i (O.mono s2.g r1) (f1.step s2) m.st.h fun j b o e => (m.en.sub j b o e).1).set j r2)⟩
theorem go_parOO {O2 : Own β} {i j : Nat} (h1 : EvO T O ta es x) (h2 : EvO T O2 tb es y) (k : To T G0 H0 D.nx ((es.set i (.own O x)).set j (.own O2 y))) : Go T G0 H0 (tPar i j (tCons ta (tCons tb tNil))) D es := fun G H σ F m =>
  h1 G0 H0 G H σ F m _ fun v G1 H1 F1 s1 f1 r1 => h2 G0 H0 G1 H1 σ F (m.step s1) _ fun w G2 H2 F2 s2 f2 r2 => ⟨v, w, rfl, k G2 H2 _ _ ((((m.step s1).step s2).setO i (O.mono s2.g r1) (f1.step s2) m.st.h fun j b o e => (m.en.sub j b o e).1).setO j r2 f2 (LamX.ExtN.trans m.st.h s1.h) fun k b o e => by
      by_cases hk : k = i
      · subst hk
        rw [setF_same] at e
        exact (f1 b o e).1
      · rw [setF_ne hk] at e
        exact s1.h b o (m.en.sub k b o e).1 (m.en.sub k b o e).2.2.2.1)⟩
theorem go_aug {i : Nat} {f : Int → Int → Int} {a b : Int} (hx : es[i]? = some (.val rI a)) (h : EvE T rI te es b) (k : To T G0 H0 D.nx (es.set i (.val rI (f a b)))) : Go T G0 H0 (tAug i te (ipI f)) D es := fun G H σ F m => by
  obtain ⟨v, hv, hr⟩ := m.val hx
  exact ⟨v, hv, h G0 H0 G H σ F m _ fun w G1 H1 s1 r1 => ⟨a, b, hr, r1, k G1 H1 _ _ ((m.step s1).set i (show rI.r G1 (.int (f a b)) (f a b) from rfl))⟩⟩
/-! own lists -/
theorem At.list {σ : St} {F : Nat → Hp} {G H : Hp} {xs : List α} {i : Nat} (m : At T G0 H0 G H σ F es) (h : es[i]? = some (.own (oL R) xs)) : ∃ p vs, σ[i]? = some (some (.ref p)) ∧ F i = one p (.lst vs) ∧ H p = some (.lst vs) ∧ vs.length ≤ 100000 ∧ All2 (R.r G) vs xs := by
  obtain ⟨v, hv, p, vs, rfl, hF, hl, ha⟩ := m.own h
  exact ⟨p, vs, hv, hF, (m.en.sub i p _ (by rw [hF, one_same])).1, hl, ha⟩
theorem At.dict {σ : St} {F : Nat → Hp} {G H : Hp} {xs : List (Int × α)} {i : Nat} (m : At T G0 H0 G H σ F es) (h : es[i]? = some (.own (oD R) xs)) : ∃ p vs, σ[i]? = some (some (.ref p)) ∧ F i = one p (.dK vs) ∧ H p = some (.dK vs) ∧ vs.length ≤ 100000 ∧ All2 (fun (p : Key × V) (q : Int × α) => p.1 = .inl q.1 ∧ R.r G p.2 q.2) vs xs := by
  obtain ⟨v, hv, p, vs, rfl, hF, hl, ha⟩ := m.own h
  exact ⟨p, vs, hv, hF, (m.en.sub i p _ (by rw [hF, one_same])).1, hl, ha⟩
theorem sz100 {n : Nat} (h : n ≤ 100000) : n ≤ sizeLine := Evl.sz_of h
/-- xs.append(e) -/
theorem go_app {i : Nat} {xs : List α} (hx : es[i]? = some (.own (oL R) xs)) (hz : xs.length < 100000) (h : EvE T R te es x) (k : To T G0 H0 D.nx (es.set i (.own (oL R) (xs ++ [x])))) :
    Go T G0 H0 (tDrop (tBM K "list" rAppend (tVar i) (tCons te tNil))) D es := fun G H σ F m => by
  obtain ⟨p, vs, hv, hF, hp, hl, ha⟩ := m.list hx
  refine ⟨_, hv, .inl ⟨rfl, vs, Evl.sq_of hp⟩, h G0 H0 G H σ F m _ fun v G1 H1 s1 r1 => ?_⟩
  have m1 := m.step s1
  have hp1 : H1 p = some (.lst vs) := s1.h p _ hp (fun _ z => by cases z)
  have hlen : vs.length = xs.length := ha.length
  refine ⟨p, vs, v, rfl, rfl, hp1, Evl.sz_lt (by omega), k G1 _ _ _ (m1.upd hF pl_lst hv ⟨p, vs ++ [v], rfl, rfl, by simp; omega, ?_⟩)⟩
  exact (ha.imp fun _ _ => R.mono s1.g).snoc r1
/-- xs[k] = e -/
theorem go_setL {i k : Nat} {xs : List α} (hx : es[i]? = some (.own (oL R) xs)) (hk : k < xs.length) (h : EvE T R te es x) (hi : EvE T rN tb es k) (c : To T G0 H0 D.nx (es.set i (.own (oL R) (xs.set k x)))) :
    Go T G0 H0 (tAsg te (gSub (tVar i) tb rSetL)) D es := fun G H σ F m => by
  obtain ⟨p, vs, hv, hF, hp, hl, ha⟩ := m.list hx
  have hlen : vs.length = xs.length := ha.length
  refine h G0 H0 G H σ F m _ fun v G1 H1 s1 r1 => ⟨_, hv, hi G0 H0 G1 H1 σ F (m.step s1) _ fun w G2 H2 s2 r2 => ?_⟩
  have m2 := (m.step s1).step s2
  have hp2 : H2 p = some (.lst vs) := s2.h p _ (s1.h p _ hp (fun _ z => by cases z)) (fun _ z => by cases z)
  refine ⟨p, vs, _, k, rfl, r2, hp2, Evl.ixN_nat (by omega), c G2 _ _ _ (m2.upd hF pl_lst hv ⟨p, vs.set k v, rfl, rfl, by rw [List.length_set]; omega, ?_⟩)⟩
  exact All2.set (R.mono s2.g r1) k (ha.imp fun _ _ h => R.mono s2.g (R.mono s1.g h))
/-- ys.append(xs.pop(k)) -/
theorem go_appPop {i j k : Nat} {xs ys : List α} (hij : i ≠ j) (hx : es[i]? = some (.own (oL R) xs)) (hy : es[j]? = some (.own (oL R) ys)) (hz : ys.length < 100000) (hxk : xs[k]? = some x) (h : EvE T rN te es k) (c : To T G0 H0 D.nx ((es.set i (.own (oL R) (xs.eraseIdx k))).set j (.own (oL R) (ys ++ [x])))) :
    Go T G0 H0 (tDrop (tBM K "list" rAppend (tVar j) (tCons (tBM K "list" rPopAt (tVar i) (tCons te tNil)) tNil))) D es := fun G H σ F m => by
  obtain ⟨q, ws, hw, hFj, hq, hlq, hb⟩ := m.list hy
  refine ⟨_, hw, .inl ⟨rfl, ws, Evl.sq_of hq⟩, ?_⟩
  obtain ⟨p, vs, hv, hF, hp, hl, ha⟩ := m.list hx
  refine ⟨_, hv, .inl ⟨rfl, vs, Evl.sq_of hp⟩, h G0 H0 G H σ F m _ fun v G1 H1 s1 r1 => ?_⟩
  have m1 := m.step s1
  have hp1 : H1 p = some (.lst vs) := s1.h p _ hp (fun _ z => by cases z)
  have hq1 : H1 q = some (.lst ws) := s1.h q _ hq (fun _ z => by cases z)
  have hlen : vs.length = xs.length := ha.length
  have hlen2 : ws.length = ys.length := hb.length
  obtain ⟨hkl, _⟩ := List.getElem?_eq_some_iff.mp hxk
  obtain ⟨z, hz1, hz2⟩ := ha.get hxk
  have hqp : q ≠ p := fun e => by
    have z := m.en.dis i j p hij (by rw [hF, one_same]; simp)
    rw [hFj, e, one_same] at z
    cases z
  have hk64 : (k : Int) < 2 ^ 63 := by omega
  refine ⟨p, vs, (k : Int), k, z, rfl, by rw [show v = .int (k : Int) from r1], hp1, by omega, hk64, ?_, hz1, ?_⟩
  · exact (ixN_seq (Evl.ixN_nat (by omega))).1
  have m2 := m1.upd (O' := oL R) (y := xs.eraseIdx k) hF (o' := .lst (vs.eraseIdx k)) pl_lst hv ⟨p, vs.eraseIdx k, rfl, rfl, by have := List.length_eraseIdx_le vs k; omega, (ha.imp fun _ _ => R.mono s1.g).eraseIdx k⟩
  have hq2 : (upd H1 p (.lst (vs.eraseIdx k))) q = some (.lst ws) := by
    rw [upd_ne hqp]
    exact hq1
  have hFj2 : setF F i (one p (.lst (vs.eraseIdx k))) j = one q (.lst ws) := by
    rw [setF_ne (Ne.symm hij)]
    exact hFj
  refine ⟨q, ws, z, rfl, rfl, hq2, Evl.sz_lt (by omega), c G1 _ _ _ (m2.upd hFj2 pl_lst hw ⟨q, ws ++ [z], rfl, rfl, by simp; omega, (hb.imp fun _ _ => R.mono s1.g).snoc (R.mono s1.g hz2)⟩)⟩
end
end AO
set_option Elab.async false
set_option linter.all false
set_option maxRecDepth 100000
set_option maxHeartbeats 1000000
/-! AOLoop: walks over things, loops, comprehensions. -/
namespace AO
universe u v
open PySem L2
section
variable (T : List (Addr × Str))
structure ItR {α : Type} (R : Rep α) (J : It) (G : Hp) (xs : List α) : Prop where
  goes : ∀ (i : Nat) (G' H' : Hp), Ex G G' → Mid T G' H' → i < xs.length → J.go i H'
  stops : ∀ (G' H' : Hp), Ex G G' → Mid T G' H' → J.stop xs.length H'
  yields : ∀ (i : Nat) (G' H' : Hp) (v : V) (H2 : Hp) (x : α), Ex G G' → Mid T G' H' → xs[i]? = some x → J.yld i H' v H2 → ∃ G2, Step T G' H' G2 H2 ∧ R.r G2 v x
def EvI {α : Type} (R : Rep α) (wi : TI) (es : List Cell) (xs : List α) : Prop := ∀ (G0 H0 G H : Hp) (σ : St) (F : Nat → Hp), At T G0 H0 G H σ F es → ∀ Q : It → Hp → Prop, (∀ J G' H', Step T G H G' H' → ItR T R J G' xs → Q J H') → wi σ H Q
/-- the target g takes x -/
def TgR {α : Type} (g : TG) (R : Rep α) (x : α) (js : List Nat) (es es2 : List Cell) : Prop := ∀ (G0 H0 G H : Hp) (σ : St) (F : Nat → Hp) (v : V) (N : St → Hp → Prop), At T G0 H0 G H σ F es → R.r G v x →
  (∀ σ' F', At T G0 H0 G H σ' F' es2 → (σ'.length = σ.length ∧ ∀ k, k ∉ js → σ'[k]? = σ[k]?) → (∀ j b, F' j b ≠ none → F j b ≠ none) → N σ' H) → g v σ H N
/-- behind G1 as behind G0 -/
def Sh (G0 G1 H0 : Hp) : Prop := ∀ G H, Step T G1 H0 G H → Step T G0 H0 G H
def lp (G1 H0 : Hp) (D : Ends) (P : List Cell → Prop) : Ends := { D with nx := Some T G1 H0 P, ct := Some T G1 H0 P, bk := D.nx }
end
section
variable {T : List (Addr × Str)} {G0 H0 : Hp} {es es2 : List Cell} {α β γ : Type} {R : Rep α} {S : Rep β} {O : Own α} {x : α} {y : β} {te ta tb : TE} {D : Ends} {t u : TS} {K : PySem.W.Frag}
theorem Sh.refl : Sh T G0 G0 H0 := fun _ _ s => s
theorem Sh.trans {G1 G2 : Hp} (a : Sh T G0 G1 H0) (b : Sh T G1 G2 H0) : Sh T G0 G2 H0 := fun G H s => a G H (b G H s)
theorem to_sh {G1 : Hp} {N : St → Hp → Prop} (h : Sh T G0 G1 H0) (k : To T G0 H0 N es) : To T G1 H0 N es := fun G H σ F m => k G H σ F ⟨h G H m.st, m.ln, m.en⟩
theorem At.anchor {G H : Hp} {σ : St} {F : Nat → Hp} (m : At T G0 H0 G H σ F es) : At T G H0 G H σ F es ∧ Sh T G0 G H0 := by
  refine ⟨⟨⟨m.m, fun _ _ e => e, m.st.h, fun _ _ _ _ n => n⟩, m.ln, m.en⟩, fun G2 H2 s => ⟨s.m, Evl.Ex.trans m.st.g s.g, s.h, fun b o h1 h2 h3 => s.n b o h1 h2 (m.st.n b o h1 h2 h3)⟩⟩
theorem go_for {wi : TI} {g : TG} {xs : List α} (js : List Nat) (Inv : Nat → List Cell → Prop) (h : EvI T R wi es xs) (h0 : Inv 0 es)
    (hb : ∀ G1, Sh T G0 G1 H0 → ∀ i x es', xs[i]? = some x → Inv i es' → ∃ es2, TgR T g R x js es' es2 ∧ Go T G1 H0 t (lp T G1 H0 D (Inv (i + 1))) es2)
    (hd : ∀ es', Inv xs.length es' → To T G0 H0 D.nx es') : Go T G0 H0 (tFor wi g t) D es := fun G H σ F m => by
  refine h G0 H0 G H σ F m _ fun J G1 H1 s1 it => ?_
  obtain ⟨m1, sh⟩ := (m.step s1).anchor
  refine ⟨fun i n σ H => n = xs.length - i ∧ i ≤ xs.length ∧ Some T G1 H0 (Inv i) σ H, ⟨xs.length, by simp, Nat.zero_le _, es, G1, F, h0, m1⟩, ?_⟩
  rintro i n σ H ⟨rfl, hi, es', G', F', hI, m'⟩
  by_cases hlt : i < xs.length
  · refine .inr ⟨it.goes i G' H m'.st.g m'.m hlt, Some T G1 H0 (Inv (i + 1)), fun σ' H' p' => ⟨xs.length - (i + 1), by omega, rfl, hlt, p'⟩, fun v H2 y => ?_⟩
    obtain ⟨G2, s2, r2⟩ := it.yields i G' H v H2 _ m'.st.g m'.m (List.getElem?_eq_getElem hlt) y
    obtain ⟨es2, tg, go⟩ := hb G1 sh i _ es' (List.getElem?_eq_getElem hlt) hI
    exact tg G1 H0 G2 H2 σ F' v _ (m'.step s2) r2 fun σ2 F2 m2 _ _ => go G2 H2 σ2 F2 m2
  · have e : i = xs.length := by omega
    subst e
    exact .inl ⟨it.stops G' H m'.st.g m'.m, to_sh sh (hd es' hI) G' H σ F' m'⟩
/-- the thing walked may be read ahead of forgetting -/
theorem evi_wk {wi : TI} {xs : List α} (w : Wk es es2) (h : EvI T R wi es2 xs) : EvI T R wi es xs := fun G0 H0 G H σ F m Q q => h G0 H0 G H σ F (m.wk w) Q q
/-- with the cells told by a state -/
theorem go_forS {σS : Type} {wi : TI} {g : TG} {xs : List α} (js : List Nat) (E : σS → List Cell) (P : Nat → σS → Prop) (s0 : σS) (h : EvI T R wi es xs) (w : Wk es (E s0)) (p0 : P 0 s0)
    (hb : ∀ G1, Sh T G0 G1 H0 → ∀ i x s, xs[i]? = some x → P i s → ∃ es2, TgR T g R x js (E s) es2 ∧ Go T G1 H0 t (lp T G1 H0 D (fun es' => ∃ s', P (i + 1) s' ∧ es' = E s')) es2)
    (hd : ∀ s, P xs.length s → To T G0 H0 D.nx (E s)) : Go T G0 H0 (tFor wi g t) D es := by
  refine go_for js (fun i es' => (i = 0 ∧ es' = es) ∨ ∃ s', P i s' ∧ es' = E s') h (.inl ⟨rfl, rfl⟩) (fun G1 sh i x es' hx hI => ?_) fun es' hI => ?_
  · have key : ∀ s, P i s → ∃ es2, TgR T g R x js (E s) es2 ∧ Go T G1 H0 t (lp T G1 H0 D (fun es' => (i + 1 = 0 ∧ es' = es) ∨ ∃ s', P (i + 1) s' ∧ es' = E s')) es2 := fun s ps => by
      obtain ⟨e2, tg, go⟩ := hb G1 sh i x s hx ps
      have eq : (fun es' => (i + 1 = 0 ∧ es' = es) ∨ ∃ s', P (i + 1) s' ∧ es' = E s') = fun es' => ∃ s', P (i + 1) s' ∧ es' = E s' := by
        funext es'
        simp
      rw [eq]
      exact ⟨e2, tg, go⟩
    rcases hI with ⟨rfl, rfl⟩ | ⟨s, ps, rfl⟩
    · obtain ⟨e2, tg, go⟩ := key s0 p0
      exact ⟨e2, fun G0 H0 G H σ F v N m => tg G0 H0 G H σ F v N (m.wk w), go⟩
    · exact key s ps
  · rcases hI with ⟨h0, rfl⟩ | ⟨s, ps, rfl⟩
    · rw [h0] at hd
      exact To.wk w (hd s0 p0)
    · exact hd s ps
theorem to_S {σS : Type} {E : σS → List Cell} {P : σS → Prop} (s : σS) (p : P s) (w : Wk es (E s)) : To T G0 H0 (Some T G0 H0 fun es' => ∃ s', P s' ∧ es' = E s') es := fun G H σ F m => ⟨E s, G, F, ⟨s, p, rfl⟩, m.wk w⟩
theorem go_whileS {σS : Type} {c : TT} (E : σS → List Cell) (P : σS → Prop) (μ : σS → Nat) (b : σS → Bool) (s0 : σS) (w : Wk es (E s0)) (p0 : P s0) (ht : ∀ s, P s → EvB T c (E s) (b s))
    (hb : ∀ s, P s → b s = true → Go T G0 H0 t (lp T G0 H0 D (fun es' => ∃ s', (P s' ∧ μ s' < μ s) ∧ es' = E s')) (E s))
    (hd : ∀ s, P s → b s = false → To T G0 H0 D.nx (E s)) : Go T G0 H0 (tWhile c t) D es := fun G H σ F m => by
  refine ⟨fun n σ H => ∃ s G F, n = μ s ∧ P s ∧ At T G0 H0 G H σ F (E s), ⟨_, s0, G, F, rfl, p0, m.wk w⟩, ?_⟩
  rintro n σ H ⟨s, G, F, rfl, ps, m⟩
  refine ht s ps G0 H0 G H σ F m _ fun G1 H1 s1 => ?_
  cases hbs : b s with
  | true =>
    rw [if_pos rfl]
    exact ⟨Some T G0 H0 (fun es' => ∃ s', (P s' ∧ μ s' < μ s) ∧ es' = E s'), fun σ' H' ⟨es', G', F', ⟨s', ⟨p1, p2⟩, e⟩, m'⟩ => ⟨μ s', p2, s', G', F', rfl, p1, e ▸ m'⟩, hb s ps hbs G1 H1 σ F (m.step s1)⟩
  | false =>
    rw [if_neg Bool.false_ne_true]
    exact hd s ps hbs G1 H1 σ F (m.step s1)

/-! ### targets -/
theorem tg_name {j : Nat} : TgR T (gName j) R x [j] es (es.set j (.val R x)) := fun G0 H0 G H σ F v N m r k => by
  refine k _ _ (m.set j r) ⟨List.length_set, fun i hi => ?_⟩ fun i b hb => ?_
  · rw [List.getElem?_set_ne (fun e => hi (by simp [e]))]
  · by_cases e : i = j
    · subst e
      rw [setF_same] at hb
      exact absurd rfl hb
    · rw [setF_ne e] at hb
      exact hb
theorem tg_tup {g1 g2 : TG} {p : α × β} {j1 j2 : List Nat} {es3 : List Cell} (h1 : TgR T g1 R p.1 j1 es es2) (h2 : TgR T g2 S p.2 j2 es2 es3) : TgR T (gTup K 2 (gCons g1 (gCons g2 gNil))) (rP R S) p (j1 ++ j2) es es3 := fun G0 H0 G H σ F v N m r k => by
  obtain ⟨a, u, w, e, ht, r1, r2⟩ := r
  refine ⟨a, [u, w], e, Evl.st_of (m.m.ex _ _ ht), rfl, u, [w], rfl, h1 G0 H0 G H σ F u _ m r1 fun σ1 F1 m1 k1 f1 => ⟨w, [], rfl, h2 G0 H0 G H σ1 F1 w _ m1 r2 fun σ2 F2 m2 k2 f2 => ⟨rfl, k σ2 F2 m2 ⟨k2.1.trans k1.1, fun i hi => ?_⟩ fun j b h => f1 j b (f2 j b h)⟩⟩⟩
  rw [List.mem_append] at hi
  rw [k2.2 i (fun z => hi (.inr z)), k1.2 i (fun z => hi (.inl z))]

/-! ### things walked -/
theorem evi_list {xs : List α} (h : EvE T (rL R) te es xs) : EvI T R (iList K te) es xs := fun G0 H0 G H σ F m Q q => h G0 H0 G H σ F m _ fun v G1 H1 s1 ⟨a, vs, e, hs, hl, ha⟩ => by
  have hs := Evl.sq_of (K := K) hs
  refine ⟨a, e, ⟨vs, Evl.ex_l s1.m.ex hs⟩, q _ G1 H1 s1 ⟨fun i G' H' e m hi => ?_, fun G' H' e m => ?_, fun i G' H' v H2 x e m hx y => ?_⟩⟩
  · have hl := ha.length
    exact ⟨vs, vs[i]'(by omega), Evl.ex_l (Evl.Ex.trans e m.ex) hs, by simp⟩
  · exact ⟨vs, Evl.ex_l (Evl.Ex.trans e m.ex) hs, by rw [ha.length]; omega⟩
  · obtain ⟨rfl, y2⟩ := y
    have hv := y2 vs (Evl.ex_l (Evl.Ex.trans e m.ex) hs)
    obtain ⟨w, hw, r⟩ := ha.get hx
    rw [hw] at hv
    cases hv
    exact ⟨G', Step.refl m, R.mono e r⟩
theorem evi_tup {xs : List α} (h : EvE T (rT R) te es xs) : EvI T R (iTup K te) es xs := fun G0 H0 G H σ F m Q q => h G0 H0 G H σ F m _ fun v G1 H1 s1 ⟨a, vs, e, hs, hl, ha⟩ => by
  have hs := Evl.st_of (K := K) hs
  refine ⟨a, e, ⟨vs, Evl.ex_t s1.m.ex hs⟩, q _ G1 H1 s1 ⟨fun i G' H' e m hi => ?_, fun G' H' e m => ?_, fun i G' H' v H2 x e m hx y => ?_⟩⟩
  · have hl := ha.length
    exact ⟨vs, vs[i]'(by omega), Evl.ex_t (Evl.Ex.trans e m.ex) hs, by simp⟩
  · exact ⟨vs, Evl.ex_t (Evl.Ex.trans e m.ex) hs, by rw [ha.length]; omega⟩
  · obtain ⟨rfl, y2⟩ := y
    have hv := y2 vs (Evl.ex_t (Evl.Ex.trans e m.ex) hs)
    obtain ⟨w, hw, r⟩ := ha.get hx
    rw [hw] at hv
    cases hv
    exact ⟨G', Step.refl m, R.mono e r⟩
theorem itr_range {lo n : Nat} {G : Hp} : ItR T rN (Itr (lo : Int) n) G (List.range' lo n) :=
  ⟨fun i G' H' e m hi => by
    have h2 : i < n := by simpa using hi
    exact h2, fun G' H' e m => by
    show n ≤ _
    simp, fun i G' H' v H2 x e m hx y => by
    obtain ⟨rfl, rfl⟩ := y
    refine ⟨G', Step.refl m, ?_⟩
    obtain ⟨h1, h2⟩ := List.getElem?_eq_some_iff.mp hx
    rw [List.getElem_range'] at h2
    show V.int _ = V.int _
    congr 1
    omega⟩
theorem evi_rng1 {n : Nat} (h : EvE T rN te es n) (hn : n < 2 ^ 60) : EvI T rN (iRng1 (tCons te tNil)) es (List.range n) := fun G0 H0 G H σ F m Q q => h G0 H0 G H σ F m _ fun v G1 H1 s1 r1 => by
  refine ⟨(n : Int), by rw [show v = .int (n : Int) from r1], by omega, by omega, ?_⟩
  have := q (Itr ((0 : Nat) : Int) n) G1 H1 s1 (by rw [List.range_eq_range']; exact itr_range)
  simpa using this
theorem evi_rng2 {lo hi : Nat} (h : EvE T rN ta es lo) (h2 : EvE T rN tb es hi) (hl : lo < 2 ^ 60) (hh : hi < 2 ^ 60) : EvI T rN (iRng2 (tCons ta (tCons tb tNil))) es (List.range' lo (hi - lo)) := fun G0 H0 G H σ F m Q q => h G0 H0 G H σ F m _ fun v G1 H1 s1 r1 => h2 G0 H0 G1 H1 σ F (m.step s1) _ fun w G2 H2 s2 r2 => by
  refine ⟨(lo : Int), (hi : Int), by rw [show v = .int (lo : Int) from r1, show w = .int (hi : Int) from r2], ⟨by omega, by omega, by omega, by omega⟩, ?_⟩
  have := q (Itr (lo : Int) (hi - lo)) G2 H2 (s1.trans s2) itr_range
  have e : ((hi : Int) - (lo : Int)).toNat = hi - lo := by omega
  rw [e]
  exact this
/-- xs, each with its place -/
def enumL {α : Type} (xs : List α) : List (Nat × α) := (List.range xs.length).zip xs
theorem enumL_get {α : Type} {xs : List α} {i : Nat} {p : Nat × α} (h : (enumL xs)[i]? = some p) : p.1 = i ∧ xs[i]? = some p.2 := by
  unfold enumL at h
  rw [List.getElem?_zip_eq_some] at h
  obtain ⟨h1, h2⟩ := h
  refine ⟨?_, h2⟩
  have h3 := List.getElem?_eq_some_iff.mp h1
  obtain ⟨h4, h5⟩ := h3
  simpa using h5.symm
theorem enumL_length {α : Type} {xs : List α} : (enumL xs).length = xs.length := by simp [enumL]
theorem pair_step {G H : Hp} {a : Addr} {u w : V} {p : α × β} (m : Mid T G H) (ha : H a = none) (h1 : R.r G u p.1) (h2 : S.r G w p.2) : ∃ G2, Step T G H G2 (upd H a (.tup [u, w])) ∧ (rP R S).r G2 (.ref a) p := by
  have e : Ex G (upd G a (.tup [u, w])) := fun b o hb => by
    rw [upd_ne (ne_of_none (m.ex b o hb) ha)]
    exact hb
  exact ⟨_, Step.new m ha ⟨fun _ h => (nomatch h), fun _ h => (nomatch h)⟩, a, u, w, rfl, upd_same, R.mono e h1, S.mono e h2⟩
theorem evi_enum {xs : List α} (h : EvE T (rL R) te es xs) : EvI T (rP rN R) (iEnum K (tCons te tNil)) es (enumL xs) := fun G0 H0 G H σ F m Q q => h G0 H0 G H σ F m _ fun v G1 H1 s1 ⟨a, vs, e, hs, hl, ha⟩ => by
  have hs := Evl.sq_of (K := K) hs
  refine ⟨a, vs, by rw [e], Evl.ex_l s1.m.ex hs, q _ G1 H1 s1 ⟨fun i G' H' e m hi => ?_, fun G' H' e m => ?_, fun i G' H' v H2 x e m hx y => ?_⟩⟩
  · have hl := ha.length
    rw [enumL_length] at hi
    exact ⟨vs, vs[i]'(by omega), Evl.ex_l (Evl.Ex.trans e m.ex) hs, by simp⟩
  · exact ⟨vs, Evl.ex_l (Evl.Ex.trans e m.ex) hs, by rw [ha.length, enumL_length]; omega⟩
  · obtain ⟨h1, h2⟩ := enumL_get hx
    obtain ⟨b, z, rfl, hb, rfl, y2⟩ := y
    have hv := y2 vs (Evl.ex_l (Evl.Ex.trans e m.ex) hs)
    obtain ⟨w, hw, r⟩ := ha.get h2
    rw [hw] at hv
    cases hv
    exact pair_step m hb (by show V.int _ = V.int _; rw [h1]) (R.mono e r)
theorem evi_zip {xs : List α} {ys : List β} (h : EvE T (rL R) ta es xs) (h2 : EvE T (rL S) tb es ys) : EvI T (rP R S) (iZip K (tCons ta (tCons tb tNil))) es (xs.zip ys) := fun G0 H0 G H σ F m Q q => h G0 H0 G H σ F m _ fun v G1 H1 s1 ⟨a, vs, e, hs, hl, ha⟩ => h2 G0 H0 G1 H1 σ F (m.step s1) _ fun w G2 H2 s2 ⟨b, ws, e2, hs2, hl2, ha2⟩ => by
  have hs' := Evl.ex_l s2.g (Evl.sq_of (K := K) hs)
  have hs2 := Evl.sq_of (K := K) hs2
  have ha' := ha.imp fun _ _ => R.mono s2.g
  refine ⟨a, b, vs, ws, by rw [e, e2], Evl.ex_l s2.m.ex hs', Evl.ex_l s2.m.ex hs2, q _ G2 H2 (s1.trans s2) ⟨fun i G' H' e m hi => ?_, fun G' H' e m => ?_, fun i G' H' v H2 x e m hx y => ?_⟩⟩
  · have l1 := ha.length
    have l2 := ha2.length
    rw [List.length_zip] at hi
    exact ⟨vs, ws, vs[i]'(by omega), ws[i]'(by omega), Evl.ex_l (Evl.Ex.trans e m.ex) hs', Evl.ex_l (Evl.Ex.trans e m.ex) hs2, by simp, by simp⟩
  · refine ⟨vs, ws, Evl.ex_l (Evl.Ex.trans e m.ex) hs', Evl.ex_l (Evl.Ex.trans e m.ex) hs2, ?_⟩
    rw [ha.length, ha2.length, List.length_zip]
    omega
  · obtain ⟨c, z1, z2, rfl, hc, rfl, y1, y2⟩ := y
    have hv := y1 vs (Evl.ex_l (Evl.Ex.trans e m.ex) hs')
    have hw := y2 ws (Evl.ex_l (Evl.Ex.trans e m.ex) hs2)
    rw [List.getElem?_zip_eq_some] at hx
    obtain ⟨u1, hu1, r1⟩ := ha'.get hx.1
    obtain ⟨u2, hu2, r2⟩ := ha2.get hx.2
    rw [hu1] at hv
    rw [hu2] at hw
    cases hv
    cases hw
    exact pair_step m hc (R.mono e r1) (S.mono e r2)
/-- the dict that td makes, held fast for good -/
def tLk (td : TE) : TE := fun σ H Q => td σ H fun x H1 => ∃ d kvs, x = .ref d ∧ H1 d = some (.dK kvs) ∧ ∀ o, Q x (upd H1 d (.frz o (.dK kvs)))
theorem pe_lk {X : Cx} {e : Expr} {td : TE} (h : PE X e td) : PE X e (tLk td) := by
  refine ⟨fun pins s σ H Q I hw => ?_⟩
  refine L2.thn (h.run pins s σ H _ I hw) fun v s1 ⟨x, H1, I1, r, d, kvs, e2, hd, q⟩ => ?_
  obtain ⟨od, I2⟩ := I1.lock hd trivial
  exact ⟨x, _, I2, r, q od⟩
theorem step_lock {G H : Hp} {d : Addr} {u : HO} {o : Obj} (m : Mid T G H) (hd : H d = some u) (hg : G d = none) (hp : Pl u) : Ex G (upd G d (.frz o u)) ∧ Mid T (upd G d (.frz o u)) (upd H d (.frz o u)) := by
  refine ⟨fun b w e => by rw [upd_ne (ne_of_none e hg)]; exact e, fun b w e => ?_, fun b ps e => ?_, tabs_upd m.tb hd hp⟩
  · by_cases hb : b = d
    · subst hb
      rw [upd_same] at e ⊢
      exact e
    · rw [upd_ne hb] at e ⊢
      exact m.ex b w e
  · by_cases hb : b = d
    · subst hb
      rw [upd_same] at e
      cases e
    · rw [upd_ne hb] at e
      exact m.nt b ps e
theorem step_locked {G H G' H' F : Hp} {d : Addr} {u : HO} {o : Obj} (s : Step T G H G' H') (f : Fresh G' H' H F) (hF : F = one d u) (hp : Pl u) : Step T G H (upd G' d (.frz o u)) (upd H' d (.frz o u)) ∧ Ex G' (upd G' d (.frz o u)) := by
  obtain ⟨h1, h2, h3, _⟩ := f d u (by rw [hF, one_same])
  obtain ⟨e, m⟩ := step_lock (o := o) s.m h1 h2 hp
  have ne : ∀ b w, H b = some w → (∀ ps, w ≠ .tbl ps) → b ≠ d := fun b w hb hn z => by
    rw [z] at hb
    obtain ⟨ps, hps⟩ := h3 w hb
    exact hn ps hps
  exact ⟨⟨m, Evl.Ex.trans s.g e, fun b w hb hn => by rw [upd_ne (ne b w hb hn)]; exact s.h b w hb hn, fun b w hb hn g => by rw [upd_ne (ne b w hb hn)]; exact s.n b w hb hn g⟩, e⟩
theorem evi_items {kvs : List (Int × α)} (h : EvO T (oD R) te es kvs) : EvI T (rP rI R) (iItems (tLk te)) es kvs := fun G0 H0 G H σ F m Q q => h G0 H0 G H σ F m _ fun v G1 H1 F1 s1 f1 ⟨d, ws, e, hF, hl, ha⟩ => by
  refine ⟨d, ws, e, (f1 d _ (by rw [hF, one_same])).1, fun o => ?_⟩
  obtain ⟨s2, ex⟩ := step_locked (o := o) s1 f1 hF pl_dK
  refine ⟨d, o, ws, e, upd_same, q _ _ _ s2 ⟨fun i G' H' e m hi => ?_, fun G' H' e m => ?_, fun i G' H' v H2 x e m hx y => ?_⟩⟩
  · exact ⟨m.ex _ _ (e _ _ upd_same), by rw [ha.length]; exact hi⟩
  · exact ⟨m.ex _ _ (e _ _ upd_same), by rw [ha.length]; omega⟩
  · obtain ⟨b, k, z, hk, rfl, hb, rfl⟩ := y
    obtain ⟨w, hw, r1, r2⟩ := ha.get hx
    rw [hw] at hk
    cases hk
    exact pair_step m hb (by show kV k = V.int _; rw [show k = .inl _ from r1] <;> rfl) (R.mono (Evl.Ex.trans ex e) r2)
theorem evi_keys {kvs : List (Int × α)} (h : EvO T (oD R) te es kvs) : EvI T rI (iKeys (tLk te)) es (kvs.map (·.1)) := fun G0 H0 G H σ F m Q q => h G0 H0 G H σ F m _ fun v G1 H1 F1 s1 f1 ⟨d, ws, e, hF, hl, ha⟩ => by
  refine ⟨d, ws, e, (f1 d _ (by rw [hF, one_same])).1, fun o => ?_⟩
  obtain ⟨s2, ex⟩ := step_locked (o := o) s1 f1 hF pl_dK
  refine ⟨d, o, e, .inl ⟨ws, upd_same, q _ _ _ s2 ⟨fun i G' H' e m hi => ?_, fun G' H' e m => ?_, fun i G' H' v H2 x e m hx y => ?_⟩⟩⟩
  · exact ⟨m.ex _ _ (e _ _ upd_same), by rw [ha.length]; simpa using hi⟩
  · exact ⟨m.ex _ _ (e _ _ upd_same), by rw [ha.length]; simp⟩
  · obtain ⟨rfl, k, z, hk, rfl⟩ := y
    rw [List.getElem?_map] at hx
    cases hq : kvs[i]? with
    | none => rw [hq] at hx; cases hx
    | some p =>
      rw [hq] at hx
      obtain ⟨w, hw, r1, r2⟩ := ha.get hq
      rw [hw] at hk
      cases hk
      refine ⟨G', Step.refl m, ?_⟩
      have hx' : p.1 = x := Option.some.inj hx
      show kV k = V.int x
      rw [show k = .inl p.1 from r1, hx'] <;> rfl

theorem evi_listS {xs : List α} (h : EvE T (rLs K R) te es xs) : EvI T R (iList K te) es xs := fun G0 H0 G H σ F m Q q => h G0 H0 G H σ F m _ fun v G1 H1 s1 ⟨a, vs, e, hs, hl, ha⟩ => by
  refine ⟨a, e, ⟨vs, Evl.ex_l s1.m.ex hs⟩, q _ G1 H1 s1 ⟨fun i G' H' e m hi => ?_, fun G' H' e m => ?_, fun i G' H' v H2 x e m hx y => ?_⟩⟩
  · have hl := ha.length
    exact ⟨vs, vs[i]'(by omega), Evl.ex_l (Evl.Ex.trans e m.ex) hs, by simp⟩
  · exact ⟨vs, Evl.ex_l (Evl.Ex.trans e m.ex) hs, by rw [ha.length]; omega⟩
  · obtain ⟨rfl, y2⟩ := y
    have hv := y2 vs (Evl.ex_l (Evl.Ex.trans e m.ex) hs)
    obtain ⟨w, hw, r⟩ := ha.get hx
    rw [hw] at hv
    cases hv
    exact ⟨G', Step.refl m, R.mono e r⟩
/-! ### comprehensions -/
def wipeC (es : List Cell) : List Nat → List Cell
  | [] => es
  | v :: vs => (wipeC es vs).set v .no
theorem wipe_get {σ : St} : ∀ {vs : List Nat} {k : Nat}, k ∉ vs → (wipe σ vs)[k]? = σ[k]?
  | [], _, _ => rfl
  | v :: vs, k, h => by
    show ((wipe σ vs).set v none)[k]? = _
    rw [List.getElem?_set_ne (fun e => h (by simp [e])), wipe_get (fun z => h (List.mem_cons_of_mem _ z))]
theorem wipe_in {σ : St} : ∀ {vs : List Nat} {k : Nat}, k ∈ vs → k < σ.length → (wipe σ vs)[k]? = some none
  | [], _, h, _ => by cases h
  | v :: vs, k, h, hl => by
    show ((wipe σ vs).set v none)[k]? = _
    by_cases e : v = k
    · subst e
      rw [List.getElem?_set_self (by rw [wipe_length]; exact hl)]
    · rw [List.getElem?_set_ne e]
      rcases List.mem_cons.mp h with z | z
      · exact absurd z.symm e
      · exact wipe_in z hl
theorem wipe_eq {σ σ2 : St} {vs : List Nat} (hl : σ2.length = σ.length) (h : ∀ k, k ∉ vs → σ2[k]? = (wipe σ vs)[k]?) : wipe σ2 vs = wipe σ vs := by
  apply List.ext_getElem?
  intro k
  by_cases hk : k ∈ vs
  · by_cases hlt : k < σ.length
    · rw [wipe_in hk (by omega), wipe_in hk hlt]
    · rw [List.getElem?_eq_none (by rw [wipe_length]; omega), List.getElem?_eq_none (by rw [wipe_length]; omega)]
  · rw [wipe_get hk, h k hk]
theorem At.wipe {G H : Hp} {σ : St} {F : Nat → Hp} (m : At T G0 H0 G H σ F es) : ∀ vs : List Nat, At T G0 H0 G H (wipe σ vs) F (wipeC es vs)
  | [] => m
  | v :: vs => by
    have m1 := At.wipe m vs
    refine ⟨m1.st, by show ((wipeC es vs).set v .no).length = ((L2.wipe σ vs).set v none).length; rw [List.length_set, List.length_set]; exact m1.ln, fun i c h => ?_, m1.en.sub, m1.en.dis⟩
    rcases set_get (show ((wipeC es vs).set v .no)[i]? = some c from h) with ⟨rfl, rfl, _⟩ | ⟨hi, h⟩
    · trivial
    · show c.holds G (F i) ((L2.wipe σ vs).set v none)[i]?
      rw [List.getElem?_set_ne (Ne.symm hi)]
      exact m1.en.at_ i c h
theorem filter_take_succ {α β : Type} {xs : List α} {i : Nat} {x : α} {f : α → Bool} {g : α → β} (h : xs[i]? = some x) : ((xs.take (i + 1)).filter f).map g = if f x = true then ((xs.take i).filter f).map g ++ [g x] else ((xs.take i).filter f).map g := by
  rw [List.take_add_one, h, List.filter_append, List.map_append]
  cases hf : f x <;> simp [hf]
theorem ev_lc {wi : TI} {g : TG} {tt : TT} {vs : List Nat} {xs : List α} (h : EvI T R wi es xs) (hl : xs.length ≤ 100000) (f : α → Bool) (u : α → β)
    (hb : ∀ (i : Nat) (x : α), xs[i]? = some x → ∃ es2, TgR T g R x vs (wipeC es vs) es2 ∧ EvB T tt es2 (f x) ∧ (f x = true → EvE T S te es2 (u x))) : EvO T (oL S) (tLc wi g tt te vs) es ((xs.filter f).map u) := fun G0 H0 G H σ F m Q q => by
  refine h G0 H0 G H σ F m _ fun J G1 H1 s1 it D hD => ?_
  have m1 := m.step s1
  have gD : G1 D = none := Evl.fresh_back s1.m.ex hD
  refine ⟨fun i n H' => n = xs.length - i ∧ i ≤ xs.length ∧ ∃ G' acc, Step T G1 H1 G' H' ∧ H' D = some (.lst acc) ∧ G' D = none ∧ All2 (S.r G') acc (((xs.take i).filter f).map u), ⟨xs.length, by simp, Nat.zero_le _, G1, [], Step.newH s1.m hD, upd_same, gD, by simp; exact .nil⟩, ?_⟩
  rintro i n H' ⟨rfl, hi, G', acc, s', hd, gd, ha⟩
  by_cases hlt : i < xs.length
  · refine .inr ⟨it.goes i G' H' s'.g s'.m hlt, fun H'' => i + 1 ≤ xs.length ∧ ∃ G' acc, Step T G1 H1 G' H'' ∧ H'' D = some (.lst acc) ∧ G' D = none ∧ All2 (S.r G') acc (((xs.take (i + 1)).filter f).map u), fun H'' p => ⟨xs.length - (i + 1), by omega, rfl, p⟩, fun v H2 y => ?_⟩
    have hx := List.getElem?_eq_getElem hlt
    obtain ⟨G2, s2, r2⟩ := it.yields i G' H' v H2 _ s'.g s'.m hx y
    obtain ⟨es2, tg, ht, he⟩ := hb i _ hx
    have m2 := (m1.step (s'.trans s2)).wipe vs
    have hacc : acc.length ≤ i := by
      rw [ha.length, List.length_map]
      refine Nat.le_trans (List.length_filter_le _ _) ?_
      rw [List.length_take]
      omega
    refine tg G0 H0 G2 H2 _ F v _ m2 r2 fun σ2 F2 m3 hk hF => ⟨wipe_eq (hk.1.trans (wipe_length σ vs)) hk.2, ?_⟩
    refine ht G0 H0 G2 H2 σ2 F2 m3 _ fun G3 H3 s3 => ?_
    have hd2 : H2 D = some (.lst acc) := s2.h D _ hd (fun _ z => by cases z)
    have gd2 : G2 D = none := s2.n D _ hd (fun _ z => by cases z) gd
    have hd3 : H3 D = some (.lst acc) := s3.h D _ hd2 (fun _ z => by cases z)
    have gd3 : G3 D = none := s3.n D _ hd2 (fun _ z => by cases z) gd2
    have s13 := (s'.trans s2).trans s3
    cases hf : f xs[i] with
    | false =>
      rw [if_neg Bool.false_ne_true]
      refine ⟨hlt, G3, acc, s13, hd3, gd3, ?_⟩
      rw [filter_take_succ hx, hf, if_neg Bool.false_ne_true]
      exact ha.imp fun _ _ => S.mono (Evl.Ex.trans s2.g s3.g)
    | true =>
      rw [if_pos rfl]
      refine he hf G0 H0 G3 H3 σ2 F2 (m3.step s3) _ fun w G4 H4 s4 r4 => ⟨acc, s4.h D _ hd3 (fun _ z => by cases z), Evl.sz_lt (by omega), hlt, G4, acc ++ [w], ?_, upd_same, s4.n D _ hd3 (fun _ z => by cases z) gd3, ?_⟩
      · have s14 := s13.trans s4
        have gd4 := s4.n D _ hd3 (fun _ z => by cases z) gd3
        have hd4 : H4 D = some (.lst acc) := s4.h D _ hd3 (fun _ z => by cases z)
        refine ⟨⟨fun b o e => ?_, s14.m.nt, tabs_upd s14.m.tb hd4 pl_lst⟩, s14.g, fun b o e hn => ?_, s14.n⟩
        · rw [upd_ne (ne_of_none e gd4)]
          exact s14.m.ex b o e
        · rw [upd_ne (ne_of_none e hD)]
          exact s14.h b o e hn
      · rw [filter_take_succ hx, hf, if_pos rfl]
        exact (ha.imp fun _ _ => S.mono (Evl.Ex.trans (Evl.Ex.trans s2.g s3.g) s4.g)).snoc r4
  · have e : i = xs.length := by omega
    subst e
    rw [List.take_length] at ha
    refine .inl ⟨it.stops G' H' s'.g s'.m, q (.ref D) G' H' (one D (.lst acc)) (s1.trans s') (fun b o hb => ?_) ⟨D, acc, rfl, rfl, ?_, ha⟩⟩
    · obtain ⟨rfl, rfl⟩ := one_some hb
      exact ⟨hd, gd, (nw_none hD).back s1.h, pl_lst⟩
    · rw [ha.length, List.length_map]
      exact Nat.le_trans (List.length_filter_le _ _) hl
end
end AO
set_option Elab.async false
set_option linter.all false
set_option maxRecDepth 100000
set_option maxHeartbeats 1000000
/-! AOExpr: what expressions give, by the kinds of things. -/
namespace AO
universe u v
open PySem L2
/-! ### rules over the values that the modules lack -/
section
variable {X : Cx}
theorem op_mulB : OpR X (PySem.binaryOp .Mult) (L2.rI IntMulOk fun i j => .int (i * j)) := opI fun _ _ _ _ _ _ _ hc q => PyProof.Rows.mul_int q hc
theorem ip_mulB : PIp X .Mult (fun x y H Q => ∃ i j, x = .int i ∧ y = .int j ∧ IntMulOk i j ∧ Q (.int (i * j)) H) := by
  intro pins s σ H x y v u Q I rx ry h
  obtain ⟨i, j, rfl, rfl, hc, q⟩ := h
  obtain ⟨t, rfl⟩ := rx
  obtain ⟨t', rfl⟩ := ry
  exact PyProof.Rows.imul_int ⟨.int (i * j), H, I.tok _, ⟨_, rfl⟩, q⟩ hc
end
theorem bits_nat {n k : Nat} (h : n < 2 ^ k) (hk : 0 < k) : Builtin.Int.intBits (n : Int) ≤ k := by
  unfold Builtin.Int.intBits
  have h1 : ((n : Int)).natAbs = n := by simp
  rw [h1]
  by_cases h0 : n = 0
  · subst h0
    simp
  · have : n.log2 < k := (Nat.log2_lt h0).mpr h
    split <;> omega
theorem mulok_bits {i j : Int} {a b : Nat} (ha : Builtin.Int.intBits i ≤ a) (hb : Builtin.Int.intBits j ≤ b) (h : a + b ≤ 100000000) : IntMulOk i j := by
  have e : bitsLine = 134217728 := by decide
  unfold IntMulOk
  intro z
  rw [Bool.and_eq_true] at z
  have z2 := z.2
  unfold Builtin.Int.intTooBig at z2
  have z3 := of_decide_eq_true z2
  rw [e] at z3
  omega
theorem mulok_nat {m n a b : Nat} (hm : m < 2 ^ a) (hn : n < 2 ^ b) (ha : 0 < a) (hb : 0 < b) (h : a + b ≤ 100000000) : IntMulOk (m : Int) (n : Int) := mulok_bits (bits_nat hm ha) (bits_nat hn hb) h
section
variable {T : List (Addr × Str)} {G0 H0 : Hp} {es es2 : List Cell} {α β γ : Type} {R : Rep α} {S : Rep β} {U : Rep γ} {O : Own α} {x : α} {y : β} {te ta tb tc : TE} {D : Ends} {t u : TS} {K : PySem.W.Frag}
/-! ### numbers -/
theorem ev_I0 {g : Int → Int → V} {i j : Int} {z : γ} (ha : EvE T rI ta es i) (hb : EvE T rI tb es j) (hz : ∀ G, U.r G (g i j) z) : EvE T U (tOp (rI0 g) ta tb) es z :=
  ev_op ha hb fun G H v w Q m rv rw' q => ⟨i, j, rv, rw', q _ G H (Step.refl m) (hz G)⟩
theorem ev_IC {C : Int → Int → Prop} {g : Int → Int → V} {i j : Int} {z : γ} (ha : EvE T rI ta es i) (hb : EvE T rI tb es j) (hc : C i j) (hz : ∀ G, U.r G (g i j) z) : EvE T U (tOp (L2.rI C g) ta tb) es z :=
  ev_op ha hb fun G H v w Q m rv rw' q => ⟨i, j, rv, rw', hc, q _ G H (Step.refl m) (hz G)⟩
theorem ev_NI {n : Nat} (h : EvE T rN te es n) : EvE T rI te es (n : Int) := ev_sub h (sub_NI rfl)
theorem ev_IN {i : Int} {n : Nat} (h : EvE T rI te es i) (e : i = (n : Int)) : EvE T rN te es n := ev_sub h (sub_IN e.symm)
theorem ev_k {n : Nat} {i : Int} (h : (n : Int) = i) : EvE T rN (tC (.int i)) es n := by
  rw [← h]
  exact ev_nat
theorem ev_addI {i j : Int} (ha : EvE T rI ta es i) (hb : EvE T rI tb es j) : EvE T rI (tOp (rI0 fun i j => .int (i + j)) ta tb) es (i + j) := ev_I0 ha hb fun _ => rfl
theorem ev_subI {i j : Int} (ha : EvE T rI ta es i) (hb : EvE T rI tb es j) : EvE T rI (tOp (rI0 fun i j => .int (i - j)) ta tb) es (i - j) := ev_I0 ha hb fun _ => rfl
theorem ev_mulI {i j : Int} (ha : EvE T rI ta es i) (hb : EvE T rI tb es j) (h : IntMulOk i j) : EvE T rI (tOp (L2.rI IntMulOk fun i j => .int (i * j)) ta tb) es (i * j) := ev_IC ha hb h fun _ => rfl
theorem ev_modI {i j : Int} (ha : EvE T rI ta es i) (hb : EvE T rI tb es j) (h : 0 < j) : EvE T rI (tOp (L2.rI (fun _ j => 0 < j) fun i j => .int (i % j)) ta tb) es (i % j) := ev_IC ha hb h fun _ => rfl
theorem ev_divI {i j : Int} (ha : EvE T rI ta es i) (hb : EvE T rI tb es j) (h : CDivW i j) : EvE T rI (tOp (L2.rI CDivW fun i j => .int (i / j)) ta tb) es (i / j) := ev_IC ha hb h fun _ => rfl
theorem ev_powI {i j : Int} (ha : EvE T rI ta es i) (hb : EvE T rI tb es j) (h : CPow i j) : EvE T rI (tOp (L2.rI CPow fun i j => .int (i ^ j.toNat)) ta tb) es (i ^ j.toNat) := ev_IC ha hb h fun _ => rfl
theorem ev_negI {i : Int} (ha : EvE T rI ta es i) : EvE T rI (tUn (L2.rU fun i => .int (-i)) ta) es (-i) := fun G0 H0 G H σ F m Q q => ha G0 H0 G H σ F m _ fun v G1 H1 s1 r1 => ⟨i, r1, q _ G1 H1 s1 rfl⟩
theorem ev_addN {a b : Nat} (ha : EvE T rN ta es a) (hb : EvE T rN tb es b) : EvE T rN (tOp (rI0 fun i j => .int (i + j)) ta tb) es (a + b) := ev_I0 (ev_NI ha) (ev_NI hb) fun _ => by show V.int _ = V.int _; congr 1
theorem ev_subN {a b : Nat} (ha : EvE T rN ta es a) (hb : EvE T rN tb es b) (h : b ≤ a) : EvE T rN (tOp (rI0 fun i j => .int (i - j)) ta tb) es (a - b) := ev_I0 (ev_NI ha) (ev_NI hb) fun _ => by show V.int _ = V.int _; congr 1; omega
theorem ev_mulN {a b : Nat} (ha : EvE T rN ta es a) (hb : EvE T rN tb es b) (h : IntMulOk (a : Int) (b : Int)) : EvE T rN (tOp (L2.rI IntMulOk fun i j => .int (i * j)) ta tb) es (a * b) := ev_IC (ev_NI ha) (ev_NI hb) h fun _ => by show V.int _ = V.int _; congr 1
theorem ev_modN {a b : Nat} (ha : EvE T rN ta es a) (hb : EvE T rN tb es b) (h : 0 < b) : EvE T rN (tOp (L2.rI (fun _ j => 0 < j) fun i j => .int (i % j)) ta tb) es (a % b) := ev_IC (ev_NI ha) (ev_NI hb) (by omega) fun _ => by show V.int _ = V.int _; congr 1
theorem ev_divN {a b : Nat} (ha : EvE T rN ta es a) (hb : EvE T rN tb es b) (h : 0 < b) (h2 : b.log2 < 9000) : EvE T rN (tOp (L2.rI CDivW fun i j => .int (i / j)) ta tb) es (a / b) :=
  ev_IC (ev_NI ha) (ev_NI hb) ⟨by omega, by simpa using h2⟩ fun _ => by show V.int _ = V.int _; congr 1
theorem ev_ltI {i j : Int} (ha : EvE T rI ta es i) (hb : EvE T rI tb es j) : EvE T rB (tOp (rI0 fun i j => .bl (decide (i < j))) ta tb) es (decide (i < j)) := ev_I0 ha hb fun _ => rfl
theorem ev_leI {i j : Int} (ha : EvE T rI ta es i) (hb : EvE T rI tb es j) : EvE T rB (tOp (rI0 fun i j => .bl (decide (i ≤ j))) ta tb) es (decide (i ≤ j)) := ev_I0 ha hb fun _ => rfl
theorem ev_gtI {i j : Int} (ha : EvE T rI ta es i) (hb : EvE T rI tb es j) : EvE T rB (tOp (rI0 fun i j => .bl (decide (j < i))) ta tb) es (decide (j < i)) := ev_I0 ha hb fun _ => rfl
theorem ev_geI {i j : Int} (ha : EvE T rI ta es i) (hb : EvE T rI tb es j) : EvE T rB (tOp (rI0 fun i j => .bl (decide (j ≤ i))) ta tb) es (decide (j ≤ i)) := ev_I0 ha hb fun _ => rfl
theorem ev_ltN {a b : Nat} (ha : EvE T rN ta es a) (hb : EvE T rN tb es b) : EvE T rB (tOp (rI0 fun i j => .bl (decide (i < j))) ta tb) es (decide (a < b)) := ev_I0 (ev_NI ha) (ev_NI hb) fun _ => by show V.bl _ = V.bl _; congr 1; simp
theorem ev_leN {a b : Nat} (ha : EvE T rN ta es a) (hb : EvE T rN tb es b) : EvE T rB (tOp (rI0 fun i j => .bl (decide (i ≤ j))) ta tb) es (decide (a ≤ b)) := ev_I0 (ev_NI ha) (ev_NI hb) fun _ => by show V.bl _ = V.bl _; congr 1; simp
theorem ev_gtN {a b : Nat} (ha : EvE T rN ta es a) (hb : EvE T rN tb es b) : EvE T rB (tOp (rI0 fun i j => .bl (decide (j < i))) ta tb) es (decide (b < a)) := ev_I0 (ev_NI ha) (ev_NI hb) fun _ => by show V.bl _ = V.bl _; congr 1; simp
theorem ev_geN {a b : Nat} (ha : EvE T rN ta es a) (hb : EvE T rN tb es b) : EvE T rB (tOp (rI0 fun i j => .bl (decide (j ≤ i))) ta tb) es (decide (b ≤ a)) := ev_I0 (ev_NI ha) (ev_NI hb) fun _ => by show V.bl _ = V.bl _; congr 1; simp
theorem ev_eqI {i j : Int} (ha : EvE T rI ta es i) (hb : EvE T rI tb es j) : EvE T rB (tOp rEq ta tb) es (decide (i = j)) := ev_op ha hb fun G H v w Q m rv rw' q => by
  rw [show v = .int i from rv, show w = .int j from rw']
  exact ⟨rfl, q _ G H (Step.refl m) (by show V.bl _ = V.bl _; congr 1; simp)⟩
theorem ev_neI {i j : Int} (ha : EvE T rI ta es i) (hb : EvE T rI tb es j) : EvE T rB (tOp rNe ta tb) es (!decide (i = j)) := ev_op ha hb fun G H v w Q m rv rw' q => by
  rw [show v = .int i from rv, show w = .int j from rw']
  exact ⟨rfl, q _ G H (Step.refl m) (by show V.bl _ = V.bl _; congr 1; simp)⟩
theorem ev_eqN {a b : Nat} (ha : EvE T rN ta es a) (hb : EvE T rN tb es b) : EvE T rB (tOp rEq ta tb) es (decide (a = b)) := ev_is (ev_eqI (ev_NI ha) (ev_NI hb)) (by simp [Int.ofNat_inj])
theorem ev_neN {a b : Nat} (ha : EvE T rN ta es a) (hb : EvE T rN tb es b) : EvE T rB (tOp rNe ta tb) es (!decide (a = b)) := ev_is (ev_neI (ev_NI ha) (ev_NI hb)) (by simp [Int.ofNat_inj])
theorem ev_eqB {a b : Bool} (ha : EvE T rB ta es a) (hb : EvE T rB tb es b) : EvE T rB (tOp rEq ta tb) es (decide (a = b)) := ev_op ha hb fun G H v w Q m rv rw' q => by
  rw [show v = .bl a from rv, show w = .bl b from rw']
  exact ⟨rfl, q _ G H (Step.refl m) (by show V.bl _ = V.bl _; congr 1; simp)⟩
theorem ev_neB {a b : Bool} (ha : EvE T rB ta es a) (hb : EvE T rB tb es b) : EvE T rB (tOp rNe ta tb) es (!decide (a = b)) := ev_op ha hb fun G H v w Q m rv rw' q => by
  rw [show v = .bl a from rv, show w = .bl b from rw']
  exact ⟨rfl, q _ G H (Step.refl m) (by show V.bl _ = V.bl _; congr 1; simp)⟩
theorem ev_isB {a b : Bool} (ha : EvE T rB ta es a) (hb : EvE T rB tb es b) : EvE T rB (tOp rIsB ta tb) es (decide (a = b)) := ev_op ha hb fun G H v w Q m rv rw' q => ⟨a, b, rv, rw', q _ G H (Step.refl m) rfl⟩
theorem ev_isntB {a b : Bool} (ha : EvE T rB ta es a) (hb : EvE T rB tb es b) : EvE T rB (tOp rNotB ta tb) es (!decide (a = b)) := ev_op ha hb fun G H v w Q m rv rw' q => ⟨a, b, rv, rw', q _ G H (Step.refl m) rfl⟩
/-- a < b < c and the like: c is asked only where the first holds -/
theorem ev_chain {r r' : R2} {b c : Bool} {z : γ} (ha : EvE T R ta es x) (hb : EvE T S tb es y) (h1 : Op2 T r R x S y rB b) (hc : b = true → EvE T U tc es z) (h2 : b = true → Op2 T r' S y U z rB c) : EvE T rB (tChain r r' ta tb tc) es (b && c) := fun G0 H0 G H σ F m Q q =>
  ha G0 H0 G H σ F m _ fun v G1 H1 s1 r1 => hb G0 H0 G1 H1 σ F (m.step s1) _ fun w G2 H2 s2 r2 => h1 G2 H2 v w _ s2.m (R.mono s2.g r1) r2 fun k G3 H3 s3 r3 => ⟨b, r3, by
    cases b with
    | true =>
      rw [if_pos rfl]
      exact hc rfl G0 H0 G3 H3 σ F (((m.step s1).step s2).step s3) _ fun z' G4 H4 s4 r4 => h2 rfl G4 H4 w z' _ s4.m (S.mono s4.g (S.mono s3.g r2)) r4 fun k2 G5 H5 s5 r5 => q k2 G5 H5 ((((s1.trans s2).trans s3).trans s4).trans s5) r5
    | false =>
      rw [if_neg Bool.false_ne_true]
      exact q _ G3 H3 ((s1.trans s2).trans s3) rfl⟩
/-! ### in-place operators -/
theorem go_augN {i : Nat} {f : Int → Int → Int} {a b c : Nat} (hx : es[i]? = some (.val rN a)) (h : EvE T rN te es b) (e : f (a : Int) (b : Int) = (c : Int)) (k : To T G0 H0 D.nx (es.set i (.val rN c))) : Go T G0 H0 (tAug i te (ipI f)) D es := fun G H σ F m => by
  obtain ⟨v, hv, hr⟩ := m.val hx
  exact ⟨v, hv, h G0 H0 G H σ F m _ fun w G1 H1 s1 r1 => ⟨a, b, hr, r1, k G1 H1 _ _ ((m.step s1).set i (show rN.r G1 (.int (f a b)) c by show V.int _ = V.int _; rw [e]))⟩⟩
theorem go_augMulN {i : Nat} {a b : Nat} (hx : es[i]? = some (.val rN a)) (h : EvE T rN te es b) (e : IntMulOk (a : Int) (b : Int)) (k : To T G0 H0 D.nx (es.set i (.val rN (a * b)))) : Go T G0 H0 (tAug i te (fun x y H Q => ∃ i j, x = .int i ∧ y = .int j ∧ IntMulOk i j ∧ Q (.int (i * j)) H)) D es := fun G H σ F m => by
  obtain ⟨v, hv, hr⟩ := m.val hx
  exact ⟨v, hv, h G0 H0 G H σ F m _ fun w G1 H1 s1 r1 => ⟨a, b, hr, r1, e, k G1 H1 _ _ ((m.step s1).set i (show rN.r G1 (.int ((a : Int) * (b : Int))) (a * b) by show V.int _ = V.int _; congr 1))⟩⟩
/-! ### lists, tuples made -/
theorem eo_lst0 : EvO T (oL R) (tLst tNil) es [] := fun G0 H0 G H σ F m Q q => ⟨by show 0 ≤ _; exact Nat.zero_le _, fun p hp => q _ G _ (one p (.lst [])) (Step.newH m.m hp) (fun b o h => by
    obtain ⟨rfl, rfl⟩ := one_some h
    exact ⟨upd_same, Evl.fresh_back m.m.ex hp, nw_none hp, pl_lst⟩) ⟨p, [], rfl, rfl, Nat.zero_le _, .nil⟩⟩
end
end AO
set_option Elab.async false
set_option linter.all false
set_option maxRecDepth 100000
set_option maxHeartbeats 1000000
/-! AOExpr2: lists, tuples, dicts. -/
namespace AO
universe u v
open PySem L2
/-! ### dicts with int keys, plainly -/
def lookD {α : Type} (xs : List (Int × α)) (k : Int) : Option α := (xs.find? fun p => decide (p.1 = k)).map (·.2)
def putD {α : Type} (xs : List (Int × α)) (k : Int) (v : α) : List (Int × α) :=
  if (xs.any fun p => decide (p.1 = k)) = true then xs.map (fun p => if p.1 = k then (p.1, v) else p) else xs ++ [(k, v)]
def DRel {α : Type} (R : Rep α) (G : Hp) : Key × V → Int × α → Prop := fun p q => p.1 = .inl q.1 ∧ R.r G p.2 q.2
theorem look_rel {α : Type} {R : Rep α} {G : Hp} {k : Int} : ∀ {kvs : List (Key × V)} {xs : List (Int × α)}, All2 (DRel R G) kvs xs →
    (∀ x, lookD xs k = some x → ∃ v, valV kvs (.inl k) = some v ∧ R.r G v x) ∧ (lookD xs k = none → valV kvs (.inl k) = none)
  | _, _, .nil => ⟨fun _ h => (nomatch h), fun _ => rfl⟩
  | _, _, .cons (a := p) (b := q) (l := l) (m := m) h t => by
    have ih := look_rel (k := k) t
    by_cases e : q.1 = k
    · have e2 : p.1 = .inl k := by rw [h.1, e]
      have h1 : lookD (q :: m) k = some q.2 := by simp [lookD, e]
      have h2 : valV (p :: l) (.inl k) = some p.2 := by simp [valV, e2]
      rw [h1, h2]
      exact ⟨fun x hx => ⟨_, rfl, by cases hx; exact h.2⟩, fun hn => by cases hn⟩
    · have e2 : p.1 ≠ .inl k := by
        rw [h.1]
        intro z
        exact e (Sum.inl.inj z)
      have h1 : lookD (q :: m) k = lookD m k := by simp [lookD, e]
      have h2 : valV (p :: l) (.inl k) = valV l (.inl k) := by simp [valV, e2]
      rw [h1, h2]
      exact ih
theorem look_isSome {α : Type} {R : Rep α} {G : Hp} {k : Int} {kvs : List (Key × V)} {xs : List (Int × α)} (h : All2 (DRel R G) kvs xs) : (valV kvs (.inl k)).isSome = (lookD xs k).isSome := by
  obtain ⟨h1, h2⟩ := look_rel (k := k) h
  cases e : lookD xs k with
  | none => rw [h2 e] <;> rfl
  | some x =>
    obtain ⟨v, hv, _⟩ := h1 x e
    rw [hv] <;> rfl
theorem any_rel {α : Type} {R : Rep α} {G : Hp} {k : Int} : ∀ {kvs : List (Key × V)} {xs : List (Int × α)}, All2 (DRel R G) kvs xs → (kvs.any fun kv => decide (kv.1 = .inl k)) = (xs.any fun p => decide (p.1 = k))
  | _, _, .nil => rfl
  | _, _, .cons (a := p) (b := q) h t => by
    rw [List.any_cons, List.any_cons, any_rel t]
    congr 1
    rw [h.1]
    by_cases e : q.1 = k
    · simp [e]
    · have : ¬ ((Sum.inl q.1 : Key) = .inl k) := fun z => e (Sum.inl.inj z)
      simp [e, this]
theorem put_rel {α : Type} {R : Rep α} {G : Hp} {k : Int} {kvs : List (Key × V)} {xs : List (Int × α)} {v : V} {x : α} (h : All2 (DRel R G) kvs xs) (r : R.r G v x) : All2 (DRel R G) (putK kvs (.inl k) v) (putD xs k x) := by
  unfold putK putD
  rw [any_rel h]
  split
  · rename_i hc
    clear hc
    induction h with
    | nil => exact .nil
    | cons h t ih =>
      rename_i p q l m
      refine .cons ?_ ih
      by_cases e : q.1 = k
      · have e2 : p.1 = .inl k := by rw [h.1, e]
        dsimp only
        rw [if_pos e2, if_pos e]
        exact ⟨h.1, r⟩
      · have e2 : p.1 ≠ .inl k := by
          rw [h.1]
          intro z
          exact e (Sum.inl.inj z)
        dsimp only
        rw [if_neg e2, if_neg e]
        exact h
  · exact h.append (.cons ⟨rfl, r⟩ .nil)
theorem putD_len {α : Type} {xs : List (Int × α)} {k : Int} {v : α} : (putD xs k v).length ≤ xs.length + 1 := by
  unfold putD
  split
  · simp
  · simp
theorem put_len {kvs : List (Key × V)} {k : Key} {v : V} : (putK kvs k v).length ≤ kvs.length + 1 := by
  unfold putK
  split
  · simp
  · simp
/-! ### values of plain lists -/
theorem vals_int : ∀ {G : Hp} {vs : List V} {ns : List Int}, All2 (rI.r G) vs ns → vs = ns.map V.int
  | _, _, _, .nil => rfl
  | _, _, _, .cons h t => by rw [List.map_cons, ← vals_int t, show _ = V.int _ from h]
theorem vals_nat : ∀ {G : Hp} {vs : List V} {ns : List Nat}, All2 (rN.r G) vs ns → vs = (ns.map (fun n : Nat => (n : Int))).map V.int
  | _, _, _, .nil => rfl
  | _, _, _, .cons h t => by rw [List.map_cons, List.map_cons, ← vals_nat t, show _ = V.int _ from h]
theorem vals_bl : ∀ {G : Hp} {vs : List V} {ns : List Bool}, All2 (rB.r G) vs ns → vs = ns.map V.bl
  | _, _, _, .nil => rfl
  | _, _, _, .cons h t => by rw [List.map_cons, ← vals_bl t, show _ = V.bl _ from h]
theorem of_int {G : Hp} : ∀ ns : List Int, All2 (rI.r G) (ns.map V.int) ns
  | [] => .nil
  | n :: ns => .cons rfl (of_int ns)
theorem of_nat {G : Hp} : ∀ ns : List Nat, All2 (rN.r G) ((ns.map (fun n : Nat => (n : Int))).map V.int) ns
  | [] => .nil
  | n :: ns => .cons rfl (of_nat ns)
section
variable {T : List (Addr × Str)} {G0 H0 : Hp} {es es2 : List Cell} {α β γ : Type} {R : Rep α} {S : Rep β} {U : Rep γ} {O : Own α} {x : α} {y : β} {te ta tb tc : TE} {D : Ends} {t u : TS} {K : PySem.W.Frag}
theorem newO {G H : Hp} {p : Addr} {o : HO} {Q : VK} (m : Mid T G H) (q : ∀ v G' H' F', Step T G H G' H' → Fresh G' H' H F' → O.r G' F' v x → Q v H') (hp : H p = none) (ho : Pl o) (hr : O.r G (one p o) (.ref p) x) : Q (.ref p) (upd H p o) :=
  q _ G _ (one p o) (Step.newH m hp) (fun b o' h => by
    obtain ⟨rfl, rfl⟩ := one_some h
    exact ⟨upd_same, Evl.fresh_back m.ex hp, nw_none hp, ho⟩) hr
theorem hold_map {G : Hp} : ∀ {vs : List V} {xs : List α}, HoldA G vs (xs.map (Cell.val R)) → All2 (R.r G) vs xs := by
  intro vs xs
  induction xs generalizing vs with
  | nil => intro h; cases h; exact .nil
  | cons x xs ih =>
    intro h
    cases h with
    | cons h t =>
      obtain ⟨v, e, r⟩ := h
      have e2 := Option.some.inj (Option.some.inj e)
      subst e2
      exact .cons r (ih t)
/-- [a, b, ..] of one kind -/
theorem eo_lst {tt : TA} {xs : List α} (h : EvA T tt es (xs.map (Cell.val R))) (hl : xs.length ≤ 100000) : EvO T (oL R) (tLst tt) es xs := fun G0 H0 G H σ F m Q q => h G0 H0 G H σ F m _ fun vs G1 H1 s1 ha => by
  have ha := hold_map ha
  exact ⟨sz100 (by rw [ha.length]; exact hl), fun p hp => newO s1.m (fun v G' H' F' s f r => q v G' H' F' (s1.trans s) (f.back s1.h) r) hp pl_lst ⟨p, vs, rfl, rfl, by rw [ha.length]; exact hl, ha⟩⟩
theorem pl_tup {xs : List V} : Pl (.tup xs) := ⟨fun _ h => (nomatch h), fun _ h => (nomatch h)⟩
theorem ev_tupT {tt : TA} {xs : List α} (h : EvA T tt es (xs.map (Cell.val R))) (hl : xs.length ≤ 100000) : EvE T (rT R) (tTup tt) es xs := fun G0 H0 G H σ F m Q q => h G0 H0 G H σ F m _ fun vs G1 H1 s1 ha => by
  have ha := hold_map ha
  refine ⟨sz100 (by rw [ha.length]; exact hl), fun p hp => ?_⟩
  have s2 := Step.new s1.m hp (o := .tup vs) pl_tup
  exact q _ _ _ (s1.trans s2) ⟨p, vs, rfl, upd_same, by rw [ha.length]; exact hl, ha.imp fun _ _ => R.mono s2.g⟩
theorem ev_tup2 (h1 : EvE T R ta es x) (h2 : EvE T S tb es y) : EvE T (rP R S) (tTup (tCons ta (tCons tb tNil))) es (x, y) := fun G0 H0 G H σ F m Q q => h1 G0 H0 G H σ F m _ fun v G1 H1 s1 r1 => h2 G0 H0 G1 H1 σ F (m.step s1) _ fun w G2 H2 s2 r2 => ⟨by show 2 ≤ sizeLine; decide, fun p hp => by
  have s3 := Step.new s2.m hp (o := .tup [v, w]) pl_tup
  exact q _ _ _ ((s1.trans s2).trans s3) ⟨p, v, w, rfl, upd_same, R.mono (Evl.Ex.trans s2.g s3.g) r1, S.mono s3.g r2⟩⟩
/-! ### items -/
theorem at_nat {xs : List V} {k : Nat} {v : V} (h : xs[k]? = some v) : atI xs (k : Int) = some v := atI_nat h
theorem ev_ixL {xs : List α} {k : Nat} (h : EvE T (rL R) ta es xs) (hk : EvE T rN tb es k) (hx : xs[k]? = some x) : EvE T R (tOp (rIxL K) ta tb) es x := ev_op h hk fun G H v w Q m rv rw' q => by
  obtain ⟨a, vs, rfl, hs, hl, ha⟩ := rv
  obtain ⟨z, hz, r⟩ := ha.get hx
  exact ⟨a, vs, _, z, rfl, rw', Evl.sq_of (m.ex _ _ hs), at_nat hz, q z G H (Step.refl m) r⟩
theorem ev_ixS {xs : List α} {k : Nat} (h : EvE T (rLs K R) ta es xs) (hk : EvE T rN tb es k) (hx : xs[k]? = some x) : EvE T R (tOp (rIxL K) ta tb) es x := ev_op h hk fun G H v w Q m rv rw' q => by
  obtain ⟨a, vs, rfl, hs, hl, ha⟩ := rv
  obtain ⟨z, hz, r⟩ := ha.get hx
  exact ⟨a, vs, _, z, rfl, rw', Evl.ex_l m.ex hs, at_nat hz, q z G H (Step.refl m) r⟩
theorem ev_ixT {xs : List α} {k : Nat} (h : EvE T (rT R) ta es xs) (hk : EvE T rN tb es k) (hx : xs[k]? = some x) : EvE T R (tOp (rIxT K) ta tb) es x := ev_op h hk fun G H v w Q m rv rw' q => by
  obtain ⟨a, vs, rfl, hs, hl, ha⟩ := rv
  obtain ⟨z, hz, r⟩ := ha.get hx
  exact ⟨a, vs, _, z, rfl, rw', Evl.st_of (m.ex _ _ hs), at_nat hz, q z G H (Step.refl m) r⟩
/-- xs[-1] -/
theorem ev_ixLast {xs : List α} (h : EvE T (rL R) ta es xs) (hk : EvE T rI tb es (-1)) (hx : xs.getLast? = some x) : EvE T R (tOp (rIxL K) ta tb) es x := ev_op h hk fun G H v w Q m rv rw' q => by
  obtain ⟨a, vs, rfl, hs, hl, ha⟩ := rv
  rw [List.getLast?_eq_getElem?] at hx
  obtain ⟨z, hz, r⟩ := ha.get hx
  have hln := ha.length
  refine ⟨a, vs, -1, z, rfl, rw', Evl.sq_of (m.ex _ _ hs), ?_, q z G H (Step.refl m) r⟩
  obtain ⟨hlt, _⟩ := List.getElem?_eq_some_iff.mp hx
  unfold atI ixN
  rw [if_neg (by omega), if_pos (by omega)]
  show vs[(-1 + (vs.length : Int)).toNat]? = some z
  rw [show (-1 + (vs.length : Int)).toNat = xs.length - 1 by omega]
  exact hz
/-- found[k], found an own list -/
theorem ev_ixO {xs : List α} {i k : Nat} (h : es[i]? = some (.own (oL R) xs)) (hk : EvE T rN tb es k) (hx : xs[k]? = some x) : EvE T R (tOp (rIxL K) (tVar i) tb) es x := fun G0 H0 G H σ F m Q q => by
  obtain ⟨p, vs, hv, hF, hp, hl, ha⟩ := m.list h
  obtain ⟨z, hz, r⟩ := ha.get hx
  exact ⟨_, hv, hk G0 H0 G H σ F m _ fun w G1 H1 s1 r1 => ⟨p, vs, _, z, rfl, r1, Evl.sq_of (s1.h p _ hp fun _ z => by cases z), at_nat hz, q z G1 H1 s1 (R.mono s1.g r)⟩⟩
/-! ### len, list -/
abbrev rLn (K : PySem.W.Frag) : List V → Hp → VK → Prop := fun xs H Q => ∃ p ys, xs = [.ref p] ∧ (SqL K H p ys ∨ SqT K H p ys) ∧ Q (.int ys.length) H
theorem ev_len {xs : List α} (h : EvE T (rL R) ta es xs) : EvE T rN (tCB (rLn K) (tCons ta tNil)) es xs.length := fun G0 H0 G H σ F m Q q => h G0 H0 G H σ F m _ fun v G1 H1 s1 r => by
  obtain ⟨a, vs, rfl, hs, hl, ha⟩ := r
  exact ⟨a, vs, rfl, .inl (Evl.sq_of (s1.m.ex _ _ hs)), q _ G1 H1 s1 (by show V.int _ = V.int _; rw [ha.length])⟩
theorem ev_lenS {xs : List α} (h : EvE T (rLs K R) ta es xs) : EvE T rN (tCB (rLn K) (tCons ta tNil)) es xs.length := fun G0 H0 G H σ F m Q q => h G0 H0 G H σ F m _ fun v G1 H1 s1 r => by
  obtain ⟨a, vs, rfl, hs, hl, ha⟩ := r
  exact ⟨a, vs, rfl, .inl (Evl.ex_l s1.m.ex hs), q _ G1 H1 s1 (by show V.int _ = V.int _; rw [ha.length])⟩
theorem ev_lenO {xs : List α} {i : Nat} (h : es[i]? = some (.own (oL R) xs)) : EvE T rN (tCB (rLn K) (tCons (tVar i) tNil)) es xs.length := fun G0 H0 G H σ F m Q q => by
  obtain ⟨p, vs, hv, hF, hp, hl, ha⟩ := m.list h
  exact ⟨_, hv, p, vs, rfl, .inl (Evl.sq_of hp), q _ G H (Step.refl m.m) (by show V.int _ = V.int _; rw [ha.length])⟩
abbrev rLi (K : PySem.W.Frag) : List V → Hp → VK → Prop := fun xs H Q => ∃ p ys, xs = [.ref p] ∧ (SqL K H p ys ∨ SqT K H p ys) ∧ ∀ l, H l = none → Q (.ref l) (upd H l (.lst ys))
theorem eo_list {xs : List α} (h : EvE T (rL R) ta es xs) : EvO T (oL R) (tCB (rLi K) (tCons ta tNil)) es xs := fun G0 H0 G H σ F m Q q => h G0 H0 G H σ F m _ fun v G1 H1 s1 r => by
  obtain ⟨a, vs, rfl, hs, hl, ha⟩ := r
  exact ⟨a, vs, rfl, .inl (Evl.sq_of (s1.m.ex _ _ hs)), fun p hp => newO s1.m (fun v G' H' F' s f r => q v G' H' F' (s1.trans s) (f.back s1.h) r) hp pl_lst ⟨p, vs, rfl, rfl, hl, ha⟩⟩
/-- list(an own list) -/
theorem eo_listO {xs : List α} {i : Nat} (h : es[i]? = some (.own (oL R) xs)) : EvO T (oL R) (tCB (rLi K) (tCons (tVar i) tNil)) es xs := fun G0 H0 G H σ F m Q q => by
  obtain ⟨p, vs, hv, hF, hp, hl, ha⟩ := m.list h
  exact ⟨_, hv, p, vs, rfl, .inl (Evl.sq_of hp), fun p hp => newO m.m q hp pl_lst ⟨p, vs, rfl, rfl, hl, ha⟩⟩
theorem eo_listRg {n : Nat} (h : EvE T rN ta es n) (hn : n ≤ 100000) : EvO T (oL rN) (tLstRg (tRg1 ta)) es (List.range n) := fun G0 H0 G H σ F m Q q => h G0 H0 G H σ F m _ fun v G1 H1 s1 r => by
  refine ⟨(n : Int), r, RgOk.of_le (by omega) (by omega) (by omega) (by omega), fun p hp => newO s1.m (fun v G' H' F' s f r => q v G' H' F' (s1.trans s) (f.back s1.h) r) hp pl_lst ⟨p, _, rfl, rfl, ?_, ?_⟩⟩
  · rw [rgV_length]
    omega
  · have e : rgV 0 (n : Int) = ((List.range n).map (fun n : Nat => (n : Int))).map V.int := by
      unfold rgV
      rw [List.map_map]
      simp
    rw [e]
    exact of_nat _
theorem eo_listRg2 {a b : Nat} (h : EvE T rN ta es a) (h2 : EvE T rN tb es b) (ha : a ≤ 100000) (hb : b ≤ 100000) : EvO T (oL rN) (tLstRg (tRg2 ta tb)) es (List.range' a (b - a)) := fun G0 H0 G H σ F m Q q => h G0 H0 G H σ F m _ fun v G1 H1 s1 r => h2 G0 H0 G1 H1 σ F (m.step s1) _ fun w G2 H2 s2 r2 => by
  refine ⟨(a : Int), (b : Int), r, r2, RgOk.of_le (by omega) (by omega) (by omega) (by omega), fun p hp => newO s2.m (fun v G' H' F' s f r => q v G' H' F' ((s1.trans s2).trans s) (f.back (s1.trans s2).h) r) hp pl_lst ⟨p, _, rfl, rfl, ?_, ?_⟩⟩
  · rw [rgV_length]
    omega
  · have e : rgV (a : Int) (b : Int) = ((List.range' a (b - a)).map (fun n : Nat => (n : Int))).map V.int := by
      unfold rgV
      rw [List.map_map, List.range'_eq_map_range, List.map_map, show ((b : Int) - (a : Int)).toNat = b - a by omega]
      apply List.map_congr_left
      intro i _
      simp
    rw [e]
    exact of_nat _
/-! ### slices -/
def PoR (T : List (Addr × Str)) (to : TO) (es : List Cell) (o : Option Nat) : Prop := ∀ (G0 H0 G H : Hp) (σ : St) (F : Nat → Hp), At T G0 H0 G H σ F es → ∀ Q : Option Int → Hp → Prop, (∀ G' H', Step T G H G' H' → Q (o.map fun n : Nat => (n : Int)) H') → to σ H Q
theorem po_no : PoR T tNoPart es none := fun _ _ G H _ _ m Q q => q G H (Step.refl m.m)
theorem po_so {k : Nat} (h : EvE T rN te es k) : PoR T (tPart te) es (some k) := fun G0 H0 G H σ F m Q q => h G0 H0 G H σ F m _ fun v G1 H1 s1 r => ⟨(k : Int), r, q G1 H1 s1⟩
/-- xs[a:b] -/
def cutN {α : Type} (xs : List α) : Option Nat → Option Nat → List α
  | none, none => xs
  | some a, none => xs.drop a
  | none, some b => xs.take b
  | some a, some b => (xs.drop a).take (b - a)
theorem cut_rel {G : Hp} {vs : List V} {xs : List α} (h : All2 (R.r G) vs xs) (a b : Option Nat) : All2 (R.r G) (cutV vs (a.map fun n : Nat => (n : Int)) (b.map fun n : Nat => (n : Int))) (cutN xs a b) := by
  unfold cutV
  have hl := h.length
  cases a with
  | none =>
    cases b with
    | none =>
      show All2 _ (List.take (vs.length - 0) (List.drop 0 vs)) xs
      simp
      exact h
    | some b =>
      show All2 _ (List.take (HT.sIx vs.length vs.length (some (b : Int)) - 0) (List.drop 0 vs)) (xs.take b)
      rw [HT.sIx_nat]
      have e : List.take (min b vs.length - 0) (List.drop 0 vs) = vs.take b := by
        rw [List.drop_zero, List.take_eq_take_iff]
        omega
      rw [e]
      exact h.take b
  | some a =>
    show All2 _ (List.take (HT.sIx vs.length vs.length _ - HT.sIx vs.length 0 (some (a : Int))) (List.drop (HT.sIx vs.length 0 (some (a : Int))) vs)) _
    rw [HT.sIx_nat]
    have e1 : List.drop (min a vs.length) vs = vs.drop a := by
      by_cases ha : a ≤ vs.length
      · rw [Nat.min_eq_left ha]
      · rw [Nat.min_eq_right (by omega), List.drop_eq_nil_of_le (by omega), List.drop_eq_nil_of_le (by omega)]
    rw [e1]
    cases b with
    | none =>
      show All2 _ (List.take (vs.length - min a vs.length) (vs.drop a)) (xs.drop a)
      rw [List.take_of_length_le (by rw [List.length_drop]; omega)]
      exact h.drop a
    | some b =>
      show All2 _ (List.take (HT.sIx vs.length vs.length (some (b : Int)) - min a vs.length) (vs.drop a)) ((xs.drop a).take (b - a))
      rw [HT.sIx_nat]
      have e : List.take (min b vs.length - min a vs.length) (vs.drop a) = (vs.drop a).take (b - a) := by
        rw [List.take_eq_take_iff, List.length_drop]
        omega
      rw [e]
      exact (h.drop a).take _
theorem eo_slice {xs : List α} {lo hi : Option Nat} {tl th : TO} (h : EvE T (rL R) te es xs) (h1 : PoR T tl es lo) (h2 : PoR T th es hi) : EvO T (oL R) (tSl (rSlL K) te tl th) es (cutN xs lo hi) := fun G0 H0 G H σ F m Q q =>
  h G0 H0 G H σ F m _ fun v G1 H1 s1 r => h1 G0 H0 G1 H1 σ F (m.step s1) _ fun G2 H2 s2 => h2 G0 H0 G2 H2 σ F ((m.step s1).step s2) _ fun G3 H3 s3 => by
    obtain ⟨a, vs, rfl, hs, hl, ha⟩ := r
    have s := (s1.trans s2).trans s3
    have ex := Evl.Ex.trans s2.g s3.g
    refine ⟨a, vs, rfl, Evl.sq_of (s.m.ex _ _ (ex _ _ hs)), fun p hp => newO s.m (fun v G' H' F' s' f r => q v G' H' F' (s.trans s') (f.back s.h) r) hp pl_lst ⟨p, _, rfl, rfl, Nat.le_trans (cutV_length _ _ _) hl, cut_rel (ha.imp fun _ _ => R.mono ex) lo hi⟩⟩
theorem eo_sliceS {xs : List α} {lo hi : Option Nat} {tl th : TO} (h : EvE T (rLs K R) te es xs) (h1 : PoR T tl es lo) (h2 : PoR T th es hi) : EvO T (oL R) (tSl (rSlL K) te tl th) es (cutN xs lo hi) := fun G0 H0 G H σ F m Q q =>
  h G0 H0 G H σ F m _ fun v G1 H1 s1 r => h1 G0 H0 G1 H1 σ F (m.step s1) _ fun G2 H2 s2 => h2 G0 H0 G2 H2 σ F ((m.step s1).step s2) _ fun G3 H3 s3 => by
    obtain ⟨a, vs, rfl, hs, hl, ha⟩ := r
    have s := (s1.trans s2).trans s3
    have ex := Evl.Ex.trans s2.g s3.g
    refine ⟨a, vs, rfl, Evl.ex_l s.m.ex (Evl.ex_l ex hs), fun p hp => newO s.m (fun v G' H' F' s' f r => q v G' H' F' (s.trans s') (f.back s.h) r) hp pl_lst ⟨p, _, rfl, rfl, Nat.le_trans (cutV_length _ _ _) hl, cut_rel (ha.imp fun _ _ => R.mono ex) lo hi⟩⟩
/-- xs[::-1] -/
theorem eo_rev {xs : List α} (h : EvE T (rL R) te es xs) : EvO T (oL R) (tRevL K te) es xs.reverse := fun G0 H0 G H σ F m Q q => h G0 H0 G H σ F m _ fun v G1 H1 s1 r => by
  obtain ⟨a, vs, rfl, hs, hl, ha⟩ := r
  exact ⟨a, vs, rfl, Evl.sq_of (s1.m.ex _ _ hs), fun p hp => newO s1.m (fun v G' H' F' s' f r => q v G' H' F' (s1.trans s') (f.back s1.h) r) hp pl_lst ⟨p, _, rfl, rfl, by rw [List.length_reverse]; exact hl, ha.reverse⟩⟩
/-- xs + ys -/
theorem eo_cat {xs ys : List α} (h : EvE T (rL R) ta es xs) (h2 : EvE T (rL R) tb es ys) (hl : xs.length + ys.length ≤ 100000) : EvO T (oL R) (tOp rCat ta tb) es (xs ++ ys) := fun G0 H0 G H σ F m Q q => h G0 H0 G H σ F m _ fun v G1 H1 s1 r => h2 G0 H0 G1 H1 σ F (m.step s1) _ fun w G2 H2 s2 r2 => by
  obtain ⟨a, vs, rfl, hs, hl1, ha⟩ := r
  obtain ⟨b, ws, rfl, hs2, hl2, ha2⟩ := r2
  have l1 := ha.length
  have l2 := ha2.length
  have s := s1.trans s2
  exact ⟨a, b, vs, ws, rfl, rfl, s.m.ex _ _ (s2.g _ _ hs), s.m.ex _ _ hs2, sz100 (by omega), fun p hp => newO s.m (fun v G' H' F' s' f r => q v G' H' F' (s.trans s') (f.back s.h) r) hp pl_lst ⟨p, _, rfl, rfl, by rw [List.length_append]; omega, (ha.imp fun _ _ => R.mono s2.g).append ha2⟩⟩
theorem rep_flat (v : V) : ∀ n : Nat, (List.replicate n [v]).flatten = List.replicate n v
  | 0 => rfl
  | n + 1 => by rw [List.replicate_succ, List.flatten_cons, rep_flat v n]; rfl
/-- [x] * n -/
theorem eo_rep {n : Nat} (h : EvE T (rL R) ta es [x]) (h2 : EvE T rN tb es n) (hl : n ≤ 100000) : EvO T (oL R) (tOp rRep ta tb) es (List.replicate n x) := fun G0 H0 G H σ F m Q q => h G0 H0 G H σ F m _ fun v G1 H1 s1 r => h2 G0 H0 G1 H1 σ F (m.step s1) _ fun w G2 H2 s2 r2 => by
  obtain ⟨a, vs, rfl, hs, hl1, ha⟩ := r
  cases ha with
  | cons r t =>
    cases t
    rename_i v
    have s := s1.trans s2
    refine ⟨a, (n : Int), [v], rfl, r2, s.m.ex _ _ (s2.g _ _ hs), by omega, by omega, sz100 (by simp; exact hl), ?_⟩
    have e : (List.replicate n [v]).flatten = List.replicate n v := by
      exact rep_flat v n
    intro p hp
    have := newO (O := oL R) (x := List.replicate n x) s.m (fun v G' H' F' s' f r => q v G' H' F' (s.trans s') (f.back s.h) r) hp (o := .lst (List.replicate n v)) pl_lst ⟨p, _, rfl, rfl, by simp; exact hl, All2.replicate (R.mono s2.g r) n⟩
    simpa [e] using this
/-! ### all, any, sum -/
theorem ev_all {bs : List Bool} (h : EvE T (rL rB) ta es bs) : EvE T rB (tCB (rAll K) (tCons ta tNil)) es (bs.all id) := fun G0 H0 G H σ F m Q q => h G0 H0 G H σ F m _ fun v G1 H1 s1 r => by
  obtain ⟨a, vs, rfl, hs, hl, ha⟩ := r
  exact ⟨a, bs, rfl, by rw [← vals_bl ha]; exact Evl.sq_of (s1.m.ex _ _ hs), q _ G1 H1 s1 rfl⟩
theorem ev_any {bs : List Bool} (h : EvE T (rL rB) ta es bs) : EvE T rB (tCB (rAny K) (tCons ta tNil)) es (bs.any id) := fun G0 H0 G H σ F m Q q => h G0 H0 G H σ F m _ fun v G1 H1 s1 r => by
  obtain ⟨a, vs, rfl, hs, hl, ha⟩ := r
  exact ⟨a, bs, rfl, by rw [← vals_bl ha]; exact Evl.sq_of (s1.m.ex _ _ hs), q _ G1 H1 s1 rfl⟩
/-! ### dicts -/
theorem eo_dict : EvO T (oD R) tDNewK es [] := fun G0 H0 G H σ F m Q q p hp => newO m.m q hp pl_dK ⟨p, [], rfl, rfl, Nat.zero_le _, .nil⟩
theorem ev_inO {i : Nat} {xs : List (Int × α)} {k : Int} (h : es[i]? = some (.own (oD R) xs)) (hk : EvE T rI ta es k) : EvE T rB (tDIn ta (tVar i)) es (lookD xs k).isSome := fun G0 H0 G H σ F m Q q => hk G0 H0 G H σ F m _ fun v G1 H1 s1 r1 => by
  obtain ⟨p, vs, hv, hF, hp, hl, ha⟩ := m.dict h
  refine ⟨_, hv, p, valV vs (.inl k), rfl, ?_, ?_⟩
  · rw [show v = kV (.inl k) from r1]
    exact DGet.k (s1.h p _ hp fun _ z => by cases z)
  · rw [look_isSome ha]
    exact q _ G1 H1 s1 rfl
theorem ev_notInO {i : Nat} {xs : List (Int × α)} {k : Int} (h : es[i]? = some (.own (oD R) xs)) (hk : EvE T rI ta es k) : EvE T rB (tDNotIn ta (tVar i)) es (!(lookD xs k).isSome) := fun G0 H0 G H σ F m Q q => hk G0 H0 G H σ F m _ fun v G1 H1 s1 r1 => by
  obtain ⟨p, vs, hv, hF, hp, hl, ha⟩ := m.dict h
  refine ⟨_, hv, p, valV vs (.inl k), rfl, ?_, ?_⟩
  · rw [show v = kV (.inl k) from r1]
    exact DGet.k (s1.h p _ hp fun _ z => by cases z)
  · rw [look_isSome ha]
    exact q _ G1 H1 s1 rfl
/-- d[k] = x, d an own dict -/
theorem go_dput {i : Nat} {xs : List (Int × α)} {k : Int} (h : es[i]? = some (.own (oD R) xs)) (hz : xs.length < 100000) (hv : EvE T R te es x) (hk : EvE T rI ta es k) (c : To T G0 H0 D.nx (es.set i (.own (oD R) (putD xs k x)))) : Go T G0 H0 (sDPut (tVar i) ta te) D es := fun G H σ F m => hv G0 H0 G H σ F m _ fun v G1 H1 s1 r1 => by
  obtain ⟨p, vs, hw, hF, hp, hl, ha⟩ := m.dict h
  refine ⟨_, hw, hk G0 H0 G1 H1 σ F (m.step s1) _ fun w G2 H2 s2 r2 => ?_⟩
  have s := s1.trans s2
  have m2 := (m.step s1).step s2
  have hln := ha.length
  have hp2 : H2 p = some (.dK vs) := s.h p _ hp fun _ z => by cases z
  refine ⟨p, upd H2 p (.dK (putK vs (.inl k) v)), rfl, ?_, c G2 _ _ _ (m2.upd hF pl_dK hw ⟨p, _, rfl, rfl, Nat.le_trans put_len (by omega), put_rel (ha.imp fun _ _ h => ⟨h.1, R.mono s.g h.2⟩) (R.mono s2.g r1)⟩)⟩
  rw [show w = kV (.inl k) from r2]
  exact DPut.k hp2 (Evl.sz_lt (by omega))
/-- d.get(k, e): what is there -/
theorem ev_dget2 {xs : List (Int × α)} {k : Int} {tx : TE} {z : α} (h : EvE T (rD R) ta es xs) (hk : EvE T rI tb es k) (hd : EvE T R tx es z) : EvE T R (tDGet2 ta tb tx) es ((lookD xs k).getD z) := fun G0 H0 G H σ F m Q q => h G0 H0 G H σ F m _ fun v G1 H1 s1 r => by
  obtain ⟨a, vs, rfl, hs, hl, ha⟩ := r
  refine ⟨a, rfl, .inl ⟨vs, .inl (s1.m.ex _ _ hs)⟩, hk G0 H0 G1 H1 σ F (m.step s1) _ fun w G2 H2 s2 r2 => hd G0 H0 G2 H2 σ F ((m.step s1).step s2) _ fun u G3 H3 s3 r3 => ?_⟩
  have s := (s1.trans s2).trans s3
  have ex := Evl.Ex.trans s2.g s3.g
  refine ⟨valV vs (.inl k), ?_, ?_⟩
  · rw [show w = kV (.inl k) from r2]
    exact DGet.k (s.m.ex _ _ (ex _ _ hs))
  · obtain ⟨h1, h2⟩ := look_rel (k := k) ha
    cases e : lookD xs k with
    | none =>
      rw [h2 e]
      exact q u G3 H3 s (by rw [e]; exact r3)
    | some x =>
      obtain ⟨v, hv, r⟩ := h1 x e
      rw [hv]
      exact q v G3 H3 s (by rw [e]; exact R.mono ex r)
theorem ev_dget2O {i : Nat} {xs : List (Int × α)} {k : Int} {tx : TE} {z : α} (h : es[i]? = some (.own (oD R) xs)) (hk : EvE T rI tb es k) (hd : EvE T R tx es z) : EvE T R (tDGet2 (tVar i) tb tx) es ((lookD xs k).getD z) := fun G0 H0 G H σ F m Q q => by
  obtain ⟨a, vs, hw, hF, hp, hl, ha⟩ := m.dict h
  refine ⟨_, hw, a, rfl, .inl ⟨vs, .inl hp⟩, hk G0 H0 G H σ F m _ fun w G2 H2 s2 r2 => hd G0 H0 G2 H2 σ F (m.step s2) _ fun u G3 H3 s3 r3 => ?_⟩
  have s := s2.trans s3
  refine ⟨valV vs (.inl k), ?_, ?_⟩
  · rw [show w = kV (.inl k) from r2]
    exact DGet.k (s.h a _ hp fun _ z => by cases z)
  · obtain ⟨h1, h2⟩ := look_rel (k := k) ha
    cases e : lookD xs k with
    | none =>
      rw [h2 e]
      exact q u G3 H3 s (by rw [e]; exact r3)
    | some x =>
      obtain ⟨v, hv, r⟩ := h1 x e
      rw [hv]
      exact q v G3 H3 s (by rw [e]; exact R.mono s.g r)
/-- d[k], there -/
theorem ev_dget {xs : List (Int × α)} {k : Int} (h : EvE T (rD R) ta es xs) (hk : EvE T rI tb es k) (hx : lookD xs k = some x) : EvE T R (tDGet ta tb) es x := fun G0 H0 G H σ F m Q q => h G0 H0 G H σ F m _ fun v G1 H1 s1 r => hk G0 H0 G1 H1 σ F (m.step s1) _ fun w G2 H2 s2 r2 => by
  obtain ⟨a, vs, rfl, hs, hl, ha⟩ := r
  obtain ⟨v, hv, r⟩ := (look_rel (k := k) ha).1 x hx
  refine ⟨a, v, rfl, ?_, q v G2 H2 (s1.trans s2) (R.mono s2.g r)⟩
  rw [← hv, show w = kV (.inl k) from r2]
  exact DGet.k (s2.m.ex _ _ (s2.g _ _ hs))
/-! ### equal data -/
structure Dt (R : Rep α) (d : α → PyData) : Prop where
  dp : ∀ (K : PySem.W.Frag) (G : Hp) (v : V) (x : α), R.r G v x → Dp K G v (d x)
  sh : ∀ x, (d x).canLay0 = true
  dep : ∃ n, n ≤ 60 ∧ ∀ x, (d x).depth ≤ n
  eq : ∀ x y, PyData.eqv (d x) (d y) = true ↔ x = y
theorem Dt.shaped {d : α → PyData} (h : Dt R d) (x : α) : SeqAt.shaped (d x) = true := by
  obtain ⟨n, hn, hd⟩ := h.dep
  have := hd x
  show ((d x).canLay0 && decide ((d x).depth ≤ 64)) = true
  rw [Bool.and_eq_true]
  exact ⟨h.sh x, decide_eq_true (by omega)⟩
theorem dt_I : Dt rI (fun i => .int i) := ⟨fun K G v x h => by rw [show v = .int x from h]; exact .int x, fun x => by simp [PyData.canLay0], ⟨0, by omega, fun x => by simp [PyData.depth]⟩, fun x y => by simp [PyData.eqv]⟩
theorem dt_N : Dt rN (fun i => .int (i : Int)) := ⟨fun K G v x h => by rw [show v = .int (x : Int) from h]; exact .int _, fun x => by simp [PyData.canLay0], ⟨0, by omega, fun x => by simp [PyData.depth]⟩, fun x y => by simp [PyData.eqv, Int.ofNat_inj]⟩
theorem dt_B : Dt rB (fun i => .bool i) := ⟨fun K G v x h => by rw [show v = .bl x from h]; exact .bl x, fun x => by simp [PyData.canLay0], ⟨0, by omega, fun x => by simp [PyData.depth]⟩, fun x y => by cases x <;> cases y <;> simp [PyData.eqv]⟩
theorem dpAll_of {d : α → PyData} (h : Dt R d) {G : Hp} : ∀ {vs : List V} {xs : List α}, All2 (R.r G) vs xs → DpAll K G vs (xs.map d)
  | _, _, .nil => .nil
  | _, _, .cons a t => .cons (h.dp K G _ _ a) (dpAll_of h t)
theorem lay_all {d : α → PyData} (h : Dt R d) : ∀ xs : List α, PyData.canLayAll0 (xs.map d) = true
  | [] => by simp [PyData.canLayAll0]
  | x :: xs => by simp [PyData.canLayAll0, h.sh x, lay_all h xs]
theorem depth_all {d : α → PyData} {n : Nat} (h : ∀ x, (d x).depth ≤ n) : ∀ xs : List α, PyData.depthAll (xs.map d) ≤ n
  | [] => by simp [PyData.depthAll]
  | x :: xs => by
    have h1 := h x
    have h2 := depth_all h xs
    simp only [List.map_cons, PyData.depthAll]
    omega
theorem eqv_all {d : α → PyData} (h : Dt R d) : ∀ xs ys : List α, PyData.eqvAll (xs.map d) (ys.map d) = true ↔ xs = ys
  | [], [] => by simp [PyData.eqvAll]
  | [], _ :: _ => by simp [PyData.eqvAll]
  | _ :: _, [] => by simp [PyData.eqvAll]
  | x :: xs, y :: ys => by
    simp only [List.map_cons, PyData.eqvAll, Bool.and_eq_true, List.cons.injEq]
    rw [h.eq x y, eqv_all h xs ys]
theorem dt_L {d : α → PyData} (h : Dt R d) (hd : ∃ n, n ≤ 50 ∧ ∀ x, (d x).depth ≤ n) : Dt (rL R) (fun xs => .list (xs.map d)) := by
  refine ⟨fun K G v xs ⟨a, vs, e, hs, _, ha⟩ => ?_, fun xs => by simp only [PyData.canLay0]; exact lay_all h xs, ?_, fun xs ys => by simp only [PyData.eqv]; exact eqv_all h xs ys⟩
  · rw [e]
    exact .lst (Evl.sq_of hs) (dpAll_of h ha)
  · obtain ⟨n, hn, hx⟩ := hd
    refine ⟨n + 1, by omega, fun xs => ?_⟩
    have := depth_all hx xs
    simp only [PyData.depth]
    omega
theorem dt_LN : Dt (rL rN) (fun xs => .list (xs.map fun i : Nat => .int (i : Int))) := dt_L dt_N ⟨0, by omega, fun x => by simp [PyData.depth]⟩
theorem dt_LI : Dt (rL rI) (fun xs => .list (xs.map fun i => .int i)) := dt_L dt_I ⟨0, by omega, fun x => by simp [PyData.depth]⟩
theorem dt_LB : Dt (rL rB) (fun xs => .list (xs.map fun i => .bool i)) := dt_L dt_B ⟨0, by omega, fun x => by simp [PyData.depth]⟩
theorem dt_LLN : Dt (rL (rL rN)) (fun xs => .list (xs.map fun l => .list (l.map fun i : Nat => .int (i : Int)))) := dt_L dt_LN ⟨1, by omega, fun x => by
  have := depth_all (d := fun i : Nat => PyData.int (i : Int)) (n := 0) (fun x => by simp [PyData.depth]) x
  simp only [PyData.depth]
  omega⟩
theorem bool_iff {a : Bool} {p : Prop} [Decidable p] (h : a = true ↔ p) : a = decide p := by
  by_cases hp : p
  · rw [h.mpr hp, decide_eq_true hp]
  · rw [decide_eq_false hp]
    cases a with
    | true => exact absurd (h.mp rfl) hp
    | false => rfl
theorem ev_eqD [DecidableEq α] {d : α → PyData} (hd : Dt R d) {x y : α} (h1 : EvE T R ta es x) (h2 : EvE T R tb es y) : EvE T rB (tOp (rEqD K) ta tb) es (decide (x = y)) := ev_op h1 h2 fun G H v w Q m rv rw' q =>
  ⟨d x, d y, hd.dp K H v x (R.mono m.ex rv), hd.dp K H w y (R.mono m.ex rw'), hd.shaped x, hd.shaped y, q _ G H (Step.refl m) (by show V.bl _ = V.bl _; rw [bool_iff (hd.eq x y)])⟩
theorem ev_neD [DecidableEq α] {d : α → PyData} (hd : Dt R d) {x y : α} (h1 : EvE T R ta es x) (h2 : EvE T R tb es y) : EvE T rB (tOp (rNeD K) ta tb) es (!decide (x = y)) := ev_op h1 h2 fun G H v w Q m rv rw' q =>
  ⟨d x, d y, hd.dp K H v x (R.mono m.ex rv), hd.dp K H w y (R.mono m.ex rw'), hd.shaped x, hd.shaped y, q _ G H (Step.refl m) (by show V.bl _ = V.bl _; rw [bool_iff (hd.eq x y)])⟩
theorem any_eqv [DecidableEq α] {d : α → PyData} (hd : Dt R d) (x : α) : ∀ xs : List α, (xs.map d).any (fun z => PyData.eqv z (d x)) = decide (x ∈ xs)
  | [] => by simp
  | y :: ys => by
    rw [List.map_cons, List.any_cons, any_eqv hd x ys, bool_iff (hd.eq y x)]
    by_cases e : y = x
    · simp [e]
    · have : ¬ x = y := fun z => e z.symm
      simp [e, this]
/-- x in xs -/
theorem ev_inD [DecidableEq α] {d : α → PyData} (hd : Dt R d) (hb : ∃ n, n ≤ 50 ∧ ∀ x, (d x).depth ≤ n) {x : α} {xs : List α} (h1 : EvE T R ta es x) (h2 : EvE T (rL R) tb es xs) : EvE T rB (tOp (rInD K) ta tb) es (decide (x ∈ xs)) := ev_op h1 h2 fun G H v w Q m rv rw' q =>
  ⟨d x, xs.map d, hd.dp K H v x (R.mono m.ex rv), (dt_L hd hb).dp K H w xs ((rL R).mono m.ex rw'), hd.shaped x, (dt_L hd hb).shaped xs, q _ G H (Step.refl m) (by show V.bl _ = V.bl _; rw [any_eqv hd])⟩
theorem ev_notInD [DecidableEq α] {d : α → PyData} (hd : Dt R d) (hb : ∃ n, n ≤ 50 ∧ ∀ x, (d x).depth ≤ n) {x : α} {xs : List α} (h1 : EvE T R ta es x) (h2 : EvE T (rL R) tb es xs) : EvE T rB (tOp (rNotInD K) ta tb) es (!decide (x ∈ xs)) := ev_op h1 h2 fun G H v w Q m rv rw' q =>
  ⟨d x, xs.map d, hd.dp K H v x (R.mono m.ex rv), (dt_L hd hb).dp K H w xs ((rL R).mono m.ex rw'), hd.shaped x, (dt_L hd hb).shaped xs, q _ G H (Step.refl m) (by show V.bl _ = V.bl _; rw [any_eqv hd])⟩
end
end AO
set_option Elab.async false
set_option linter.all false
set_option maxRecDepth 100000
set_option maxHeartbeats 1000000
/-! AOSpec: promises of defs over typed cells, and calls of them. -/
namespace AO
universe u v
open PySem L2
section
variable (T : List (Addr × Str))
variable {ι ρ : Type}
/-- a def's promise: it gives f i, of kind R, new things beside, all else as it was -/
def spE (cs : ι → List Cell) (pre : ι → Prop) (R : Rep ρ) (f : ι → ρ) : Sp := fun vs H Q _ => ∃ (i : ι) (G : Hp), pre i ∧ Mid T G H ∧ HoldA G vs (cs i) ∧ ∀ v G' H', Step T G H G' H' → R.r G' v (f i) → Q v H'
/-- it gives f i that is new -/
def spO (cs : ι → List Cell) (pre : ι → Prop) (O : Own ρ) (f : ι → ρ) : Sp := fun vs H Q _ => ∃ (i : ι) (G : Hp), pre i ∧ Mid T G H ∧ HoldA G vs (cs i) ∧ ∀ v G' H' F', Step T G H G' H' → Fresh G' H' H F' → O.r G' F' v (f i) → Q v H'
/-- the same, or it raises an error of the class C i -/
def spX (cs : ι → List Cell) (ok : ι → Prop) (O : Own ρ) (f : ι → ρ) (C : ι → Addr) : Sp := fun vs H Q E => ∃ (i : ι) (G : Hp), Mid T G H ∧ HoldA G vs (cs i) ∧ (ok i → ∀ v G' H' F', Step T G H G' H' → Fresh G' H' H F' → O.r G' F' v (f i) → Q v H') ∧ (¬ ok i → ∀ G' H', Step T G H G' H' → E (.ref (C i)) none H')
end
theorem un_lt {k : Nat} {A : Around} (h : Room k A) : A.units + 1 < cLine := by
  have := h.un
  omega
theorem un_lt64 {k : Nat} {A : Around} (h : Room k A) : A.units + 64 < cLine := by
  have := h.un
  omega
/-- a kind that is nobody's own -/
def oR {α : Type} (R : Rep α) : Own α := ⟨fun G F v x => R.r G v x ∧ F = none0, fun e h => ⟨R.mono e h.1, h.2⟩⟩
theorem frz_R {α : Type} {R : Rep α} : Frz (oR R) R := fun G F v x h _ => R.mono ex_both h.1
theorem hold_app {G : Hp} : ∀ {vs : List V} {cs : List Cell}, HoldA G vs cs → ∀ n, ∀ (i : Nat) (c : Cell), (cs ++ List.replicate n Cell.no)[i]? = some c → c.holds G none0 (vs.map some ++ List.replicate n (none : Option V))[i]?
  | _, _, .nil, n, i, c, h => by
    rw [List.nil_append] at h
    have : c = .no := by
      obtain ⟨h1, h2⟩ := List.getElem?_eq_some_iff.mp h
      rw [List.getElem_replicate] at h2
      exact h2.symm
    subst this
    trivial
  | _, _, .cons a t, n, 0, c, h => by
    cases h
    exact a
  | _, _, .cons a t, n, i + 1, c, h => hold_app t n i c h
theorem at_start {T : List (Addr × Str)} {G H : Hp} {vs : List V} {cs : List Cell} {N : List Str} {n : Nat} (m : Mid T G H) (h : HoldA G vs cs) (hn : N.length - vs.length = n) : At T G H G H (L2.start N vs) (fun _ => none0) (cs ++ List.replicate n .no) := by
  refine ⟨Step.refl m, ?_, fun i c hc => ?_, fun i b o z => (nomatch z), fun i j b _ z => absurd rfl z⟩
  · unfold L2.start
    rw [List.length_append, List.length_append, List.length_map, List.length_replicate, List.length_replicate, hn, h.length]
  · unfold L2.start
    rw [hn]
    exact hold_app h n i c hc
section
variable {P : Program} {w : World} {K : PySem.W.Frag} {mg : Str → Option Value} {base : Heap} {T : List (Addr × Str)} {ι ρ : Type}
/-- a def of the text, its name and how it is called -/
structure Def (K : PySem.W.Frag) (mg : Str → Option Value) (x : Str) (st : Stmt) (ps : List Str) (f : Addr) (fd : FuncData) : Prop where
  F : FunD K x x (defArgs st) (defBody st) (defScope st) [] [] f fd
  g : mg x = some (.ref f)
  b : Binds K fd ps []
/-- what is known of a name: it is a def that keeps a promise -/
structure Pr (P : Program) (w : World) (K : PySem.W.Frag) (mg : Str → Option Value) (base : Heap) (CX : CXT) (k : Nat) (x : Str) (ps : List Str) (sp : Sp) : Prop where
  ex : ∃ f fd, mg x = some (.ref f) ∧ PySem.W.keepIn K (.ref f) = true ∧ Binds K fd ps [] ∧ FnOk P w K mg base CX k f fd ps sp
theorem Pr.mono {CX : CXT} {j k : Nat} {x : Str} {ps : List Str} {sp : Sp} (h : Pr P w K mg base CX j x ps sp) (hk : j ≤ k) : Pr P w K mg base CX k x ps sp := by
  obtain ⟨f, fd, a, b, c, d⟩ := h.ex
  exact ⟨f, fd, a, b, c, d.mono hk⟩
theorem Def.pr {x : Str} {st : Stmt} {ps : List Str} {f : Addr} {fd : FuncData} {CX : CXT} {k : Nat} {sp : Sp} (D : Def K mg x st ps f fd) (h : FnOk P w K mg base CX k f fd ps sp) : Pr P w K mg base CX k x ps sp := ⟨f, fd, D.g, D.F.kp, D.b, h⟩
/-- x(e, ..), x a def that lets nothing out -/
theorem pe_pr {X : Cx} {k : Nat} {x : Str} {ps : List Str} {sp : Sp} {e : Expr} {es : List Expr} {t : TA} {p pos : Pos} (h : Pr X.prog X.w X.K X.mg X.base CX0 k x ps sp) (hr : Room k X.A) (ha : PA X (e :: es) t) (hg : Gl X x := by rfl) (hdb : (x == ("__debug__" : Str)) = false := by decide)
    (he : starEach (e :: es) X.env = (false, eval e X.env) :: starEach es X.env := by rfl) (hpl : (backTo pos (starEach es X.env)).any (·.1) = false := by rfl) : PE X (.Call (.Name x p) (e :: es) [] pos) (tCall sp [] E0 t) := by
  obtain ⟨f, fd, a, b, c, d⟩ := h.ex
  exact pe_call d hr hg a b c .nil pass0 ha hdb he hpl
/-- the same of a def that may raise: E, what is wanted then -/
theorem pe_prX {X : Cx} {k : Nat} {x : Str} {ps : List Str} {sp : Sp} {e : Expr} {es : List Expr} {t : TA} {p pos : Pos} {W : WX} {E : XK} (h : Pr X.prog X.w X.K X.mg X.base (L2.CX X.prog X.w) k x ps sp) (hr : Room k X.A) (tk : Takes X W) (hW : ∀ cls d σ H, E cls d H → W cls d σ H) (ha : PA X (e :: es) t) (hg : Gl X x := by rfl) (hdb : (x == ("__debug__" : Str)) = false := by decide)
    (he : starEach (e :: es) X.env = (false, eval e X.env) :: starEach es X.env := by rfl) (hpl : (backTo pos (starEach es X.env)).any (·.1) = false := by rfl) : PE X (.Call (.Name x p) (e :: es) [] pos) (tCall sp [] E t) := by
  obtain ⟨f, fd, a, b, c, d⟩ := h.ex
  exact pe_call d hr hg a b c .nil (passes_call tk hW) ha hdb he hpl
/-- THE RULE for a def that lets nothing out -/
theorem fn_E {x : Str} {st : Stmt} {ps N : List Str} {f : Addr} {fd : FuncData} {k : Nat} {cs : ι → List Cell} {pre : ι → Prop} {R : Rep ρ} {g : ι → ρ} (D : Def K mg x st ps f fd) (S : FnScope N ps (defScope st)) (hl : ∀ i, (cs i).length = ps.length)
    (hb : ∀ (cdv : Value) (A : Around) (outer : List Env) (s : Shared) (H : Hp) (E : XK), Room k (A.deeper (PyProof.Rows.envOfC x (defScope st) s.heap.objs.size f cdv)) → ∃ t, PSs (cxOf CX0 P w K mg base N x (defScope st) f cdv A outer s H E).nox (defBody st) t ∧
      ∀ (i : ι) (G0 H0 : Hp) (D : Ends), pre i → (∀ v G' H', Step T G0 H0 G' H' → R.r G' v (g i) → D.rt v H') → (∀ σ H, D.rt .non H → D.nx σ H) → Go T G0 H0 t D (cs i ++ List.replicate (N.length - ps.length) .no)) :
    Pr P w K mg base CX0 (k + 1) x ps (spE T cs pre R g) := by
  refine D.pr (D.F.ok S (fun vs H Q E ⟨i, G, _, _, ha, _⟩ => ha.length.trans (hl i)) fun cdv A outer s H vs Q E hr hsp => ?_)
  obtain ⟨i, G, hp, m, ha, q⟩ := hsp
  obtain ⟨t, ht, hg⟩ := hb cdv A outer s H E hr
  have hlen : vs.length = ps.length := ha.length.trans (hl i)
  exact ⟨t, PSs.nox ht, hg i G H _ hp q (fun _ _ h => h) G H _ _ (at_start m ha (by rw [hlen]))⟩
theorem fn_O {x : Str} {st : Stmt} {ps N : List Str} {f : Addr} {fd : FuncData} {k : Nat} {cs : ι → List Cell} {pre : ι → Prop} {O : Own ρ} {g : ι → ρ} (D : Def K mg x st ps f fd) (S : FnScope N ps (defScope st)) (hl : ∀ i, (cs i).length = ps.length)
    (hb : ∀ (cdv : Value) (A : Around) (outer : List Env) (s : Shared) (H : Hp) (E : XK), Room k (A.deeper (PyProof.Rows.envOfC x (defScope st) s.heap.objs.size f cdv)) → ∃ t, PSs (cxOf CX0 P w K mg base N x (defScope st) f cdv A outer s H E).nox (defBody st) t ∧
      ∀ (i : ι) (G0 H0 : Hp) (D : Ends), pre i → (∀ v G' H' F', Step T G0 H0 G' H' → Fresh G' H' H0 F' → O.r G' F' v (g i) → D.rt v H') → (∀ σ H, D.rt .non H → D.nx σ H) → Go T G0 H0 t D (cs i ++ List.replicate (N.length - ps.length) .no)) :
    Pr P w K mg base CX0 (k + 1) x ps (spO T cs pre O g) := by
  refine D.pr (D.F.ok S (fun vs H Q E ⟨i, G, _, _, ha, _⟩ => ha.length.trans (hl i)) fun cdv A outer s H vs Q E hr hsp => ?_)
  obtain ⟨i, G, hp, m, ha, q⟩ := hsp
  obtain ⟨t, ht, hg⟩ := hb cdv A outer s H E hr
  have hlen : vs.length = ps.length := ha.length.trans (hl i)
  exact ⟨t, PSs.nox ht, hg i G H _ hp q (fun _ _ h => h) G H _ _ (at_start m ha (by rw [hlen]))⟩
theorem fn_X {x : Str} {st : Stmt} {ps N : List Str} {f : Addr} {fd : FuncData} {k : Nat} {cs : ι → List Cell} {ok : ι → Prop} {O : Own ρ} {g : ι → ρ} {C : ι → Addr} (D : Def K mg x st ps f fd) (S : FnScope N ps (defScope st)) (hl : ∀ i, (cs i).length = ps.length)
    (hb : ∀ (cdv : Value) (A : Around) (outer : List Env) (s : Shared) (H : Hp) (E : XK), Room k (A.deeper (PyProof.Rows.envOfC x (defScope st) s.heap.objs.size f cdv)) → ∃ t, PSs (cxOf (L2.CX P w) P w K mg base N x (defScope st) f cdv A outer s H E) (defBody st) t ∧
      ∀ (i : ι) (G0 H0 : Hp) (D : Ends), (ok i → ∀ v G' H' F', Step T G0 H0 G' H' → Fresh G' H' H0 F' → O.r G' F' v (g i) → D.rt v H') → (∀ σ H, D.rt .non H → D.nx σ H) → (¬ ok i → ∀ G' H', Step T G0 H0 G' H' → E (.ref (C i)) none H') → Go T G0 H0 t D (cs i ++ List.replicate (N.length - ps.length) .no)) :
    Pr P w K mg base (L2.CX P w) (k + 1) x ps (spX T cs ok O g C) := by
  refine D.pr (D.F.ok S (fun vs H Q E ⟨i, G, _, ha, _⟩ => ha.length.trans (hl i)) fun cdv A outer s H vs Q E hr hsp => ?_)
  obtain ⟨i, G, m, ha, q1, q2⟩ := hsp
  obtain ⟨t, ht, hg⟩ := hb cdv A outer s H E hr
  have hlen : vs.length = ps.length := ha.length.trans (hl i)
  exact ⟨t, ht, hg i G H _ q1 (fun _ _ h => h) q2 G H _ _ (at_start m ha (by rw [hlen]))⟩
end
section
variable {T : List (Addr × Str)} {G0 H0 : Hp} {es es2 : List Cell} {ι ρ : Type} {ta : TA} {cs : ι → List Cell} {pre ok : ι → Prop} {R : Rep ρ} {O : Own ρ} {f : ι → ρ} {C : ι → Addr} {E : XK} {D : Ends} {te : TE}
theorem ev_call (i : ι) (h : EvA T ta es (cs i)) (hp : pre i) : EvE T R (tCall (spE T cs pre R f) [] E ta) es (f i) := fun G0 H0 G H σ F m Q q => h G0 H0 G H σ F m _ fun vs G1 H1 s1 ha => by
  rw [List.append_nil]
  exact ⟨i, G1, hp, s1.m, ha, fun v G' H' s r => q v G' H' (s1.trans s) r⟩
theorem eo_call (i : ι) (h : EvA T ta es (cs i)) (hp : pre i) : EvO T O (tCall (spO T cs pre O f) [] E ta) es (f i) := fun G0 H0 G H σ F m Q q => h G0 H0 G H σ F m _ fun vs G1 H1 s1 ha => by
  rw [List.append_nil]
  exact ⟨i, G1, hp, s1.m, ha, fun v G' H' F' s fr r => q v G' H' F' (s1.trans s) (fr.back s1.h) r⟩
theorem eo_callX (i : ι) (h : EvA T ta es (cs i)) (hp : ok i) : EvO T O (tCall (spX T cs ok O f C) [] E ta) es (f i) := fun G0 H0 G H σ F m Q q => h G0 H0 G H σ F m _ fun vs G1 H1 s1 ha => by
  rw [List.append_nil]
  exact ⟨i, G1, s1.m, ha, fun _ v G' H' F' s fr r => q v G' H' F' (s1.trans s) (fr.back s1.h) r, fun n => absurd hp n⟩
/-- te raises an error of the class C -/
def Thr (T : List (Addr × Str)) (te : TE) (es : List Cell) (C : Addr) (E : XK) : Prop := ∀ (G0 H0 G H : Hp) (σ : St) (F : Nat → Hp), At T G0 H0 G H σ F es → (∀ G' H', Step T G H G' H' → E (.ref C) none H') → ∀ Q : VK, te σ H Q
theorem thr_call (i : ι) (h : EvA T ta es (cs i)) (hp : ¬ ok i) : Thr T (tCall (spX T cs ok O f C) [] E ta) es (C i) E := fun G0 H0 G H σ F m q Q => h G0 H0 G H σ F m _ fun vs G1 H1 s1 ha => by
  rw [List.append_nil]
  exact ⟨i, G1, s1.m, ha, fun n => absurd n hp, fun _ G' H' s => q G' H' (s1.trans s)⟩
theorem go_dropX {C : Addr} (h : Thr T te es C E) (k : ∀ G H, Step T G0 H0 G H → E (.ref C) none H) : Go T G0 H0 (tDrop te) D es := fun G H σ F m => h G0 H0 G H σ F m (fun G' H' s => k G' H' (m.st.trans s)) _
theorem go_asgX {C : Addr} {g : TG} (h : Thr T te es C E) (k : ∀ G H, Step T G0 H0 G H → E (.ref C) none H) : Go T G0 H0 (tAsg te g) D es := fun G H σ F m => h G0 H0 G H σ F m (fun G' H' s => k G' H' (m.st.trans s)) _
theorem go_retX {C : Addr} (h : Thr T te es C E) (k : ∀ G H, Step T G0 H0 G H → E (.ref C) none H) : Go T G0 H0 (tRet te) D es := fun G H σ F m => h G0 H0 G H σ F m (fun G' H' s => k G' H' (m.st.trans s)) _
/-- raise X('..') -/
theorem go_raise {C : Addr} {W : WX} (k : ∀ G H σ, Step T G0 H0 G H → W (.ref C) none σ H) : Go T G0 H0 (fun _ σ H => (fun (_ : St) (H : Hp) (Q : XK) => Q (.ref C) none H) σ H fun cls d H' => W cls d σ H') D es := fun G H σ F m => k G H σ m.st
theorem go_dropO {O : Own ρ} {x : ρ} (h : EvO T O te es x) (k : To T G0 H0 D.nx es) : Go T G0 H0 (tDrop te) D es := fun G H σ F m =>
  h G0 H0 G H σ F m _ fun v G1 H1 F1 s1 _ _ => k G1 H1 _ _ (m.step s1)
theorem to_nx {σp : Prop} (hn : ∀ σ H, D.rt .non H → D.nx σ H) (k : ∀ G H, Step T G0 H0 G H → D.rt .non H) : To T G0 H0 D.nx es := fun G H σ F m => hn σ H (k G H m.st)
end
end AO
set_option Elab.async false
set_option linter.all false
set_option maxRecDepth 100000
/-! AORow: where each def of the text stands. -/
namespace AO
open PySem L2
def topS (i : Nat) : Stmt := PySem.Challenge.pw_againorder_k05_refused.main.body.getD i (.Pass ⟨0, 0, 0, 0⟩)
abbrev s_wall : Stmt := topS 0
abbrev s_is_whole : Stmt := topS 10
abbrev s_is_order : Stmt := topS 11
abbrev s_check_order : Stmt := topS 12
abbrev s_check_times : Stmt := topS 13
abbrev s_rings_of : Stmt := topS 14
abbrev s_rings_in : Stmt := topS 15
abbrev s_common : Stmt := topS 16
abbrev s_back : Stmt := topS 17
abbrev s_done_often : Stmt := topS 18
abbrev s_done_again : Stmt := topS 19
abbrev s_by_length : Stmt := topS 20
abbrev s_part_of : Stmt := topS 23
abbrev s_check_all : Stmt := topS 29
abbrev s_picks : Stmt := topS 30
abbrev s_orders_of : Stmt := topS 31
abbrev s_groups_of : Stmt := topS 32
abbrev s_power : Stmt := topS 33
abbrev s_weaves : Stmt := topS 34
abbrev s_ways_of : Stmt := topS 35
abbrev s_begun_with : Stmt := topS 36
abbrev s_count_of : Stmt := topS 37
abbrev s_told : Stmt := topS 38
abbrev s_how_many : Stmt := topS 39
abbrev s_picked : Stmt := topS 40
abbrev s_ordered : Stmt := topS 41
abbrev s_woven : Stmt := topS 42
abbrev s_root_of : Stmt := topS 43
abbrev s_root_by : Stmt := topS 44
abbrev s_number_picked : Stmt := topS 45
abbrev s_number_ordered : Stmt := topS 46
abbrev s_parted : Stmt := topS 47
abbrev s_number_of : Stmt := topS 48
abbrev s_number_within : Stmt := topS 49
abbrev s_turn_of : Stmt := topS 50
abbrev s_turned : Stmt := topS 52
abbrev s_law_cell_at : Stmt := topS 54
abbrev s_law_draw : Stmt := topS 55
abbrev s_law_value : Stmt := topS 56
abbrev s_law_order : Stmt := topS 57
abbrev s_law_times : Stmt := topS 58
abbrev s_law_kinds : Stmt := topS 59
abbrev s_law_with_order : Stmt := topS 60
abbrev s_law_with_times : Stmt := topS 61
abbrev s_law_with_any : Stmt := topS 62
abbrev s_law_with_number : Stmt := topS 63
abbrev s_law_with_root : Stmt := topS 64
abbrev s_law_told : Stmt := topS 65
abbrev s_law_bad_orders : Stmt := topS 66
abbrev s_law_all : Stmt := topS 67
abbrev s_law : Stmt := topS 68
abbrev s_Rooted_init : Stmt := inClass (topS 24) 0
abbrev s_Rooted_shows : Stmt := inClass (topS 24) 1
abbrev s_Barred_init : Stmt := inClass (topS 25) 0
abbrev s_Barred_shows : Stmt := inClass (topS 25) 1
abbrev s_Turned_init : Stmt := inClass (topS 26) 0
abbrev s_Turned_shows : Stmt := inClass (topS 26) 1
abbrev s_Unlike_init : Stmt := inClass (topS 27) 0
abbrev s_Unlike_shows : Stmt := inClass (topS 27) 1
/-- built-in names that the text does not bind, and its one constant -/
structure Bn (mg : Str → Option Value) : Prop where
  len : mg "len" = none
  range : mg "range" = none
  list : mg "list" = none
  sorted : mg "sorted" = none
  isinstance : mg "isinstance" = none
  enumerate : mg "enumerate" = none
  all : mg "all" = none
  any : mg "any" = none
  zip : mg "zip" = none
  min : mg "min" = none
  sum : mg "sum" = none
  set : mg "set" = none
  int : mg "int" = none
  bool : mg "bool" = none
  MOST : ∃ t, mg "MOST" = some (.int 60 t)
end AO
set_option Elab.async false
set_option linter.all false
/-! AOMath1: orders as lists, done again and again, their rings; plain Lean. -/
namespace AO
/-- where x goes; what is no thing stays -/
def ap (σ : List Nat) (x : Nat) : Nat := σ.getD x x
def it (σ : List Nat) : Nat → Nat → Nat
  | 0, x => x
  | k + 1, x => ap σ (it σ k x)
def IsP (σ : List Nat) : Prop := σ.Perm (List.range σ.length)
theorem nodup_le : ∀ {l m : List Nat}, l.Nodup → (∀ x ∈ l, x ∈ m) → l.length ≤ m.length
  | [], _, _, _ => Nat.zero_le _
  | a :: l, m, h, hs => by
    have ha : a ∈ m := hs a (List.mem_cons_self ..)
    have h2 := List.nodup_cons.mp h
    have := nodup_le (l := l) (m := m.erase a) h2.2 fun x hx => by
      have : x ≠ a := fun e => h2.1 (e ▸ hx)
      exact (List.mem_erase_of_ne this).mpr (hs x (List.mem_cons_of_mem _ hx))
    rw [List.length_erase_of_mem ha] at this
    have : 0 < m.length := List.length_pos_of_mem ha
    simp
    omega
section
variable {σ : List Nat}
theorem IsP.nodup (h : IsP σ) : σ.Nodup := h.nodup_iff.mpr List.nodup_range
theorem IsP.mem (h : IsP σ) {x : Nat} : x ∈ σ ↔ x < σ.length := by rw [h.mem_iff, List.mem_range]
theorem ap_lt {x : Nat} (hx : x < σ.length) : ap σ x = σ[x] := by simp [ap, hx]
theorem ap_ge {x : Nat} (hx : σ.length ≤ x) : ap σ x = x := by simp [ap, hx]
theorem IsP.ap_lt (h : IsP σ) {x : Nat} (hx : x < σ.length) : ap σ x < σ.length := by
  rw [AO.ap_lt hx]
  exact h.mem.mp (List.getElem_mem hx)
theorem IsP.ap_inj (h : IsP σ) {x y : Nat} (e : ap σ x = ap σ y) : x = y := by
  by_cases hx : x < σ.length
  · by_cases hy : y < σ.length
    · rw [AO.ap_lt hx, AO.ap_lt hy] at e
      exact (List.getElem_inj h.nodup).mp e
    · rw [ap_ge (Nat.le_of_not_lt hy)] at e
      have := h.ap_lt hx
      omega
  · by_cases hy : y < σ.length
    · rw [ap_ge (Nat.le_of_not_lt hx)] at e
      have := h.ap_lt hy
      omega
    · rw [ap_ge (Nat.le_of_not_lt hx), ap_ge (Nat.le_of_not_lt hy)] at e
      exact e
theorem it_add (a b x : Nat) : it σ (a + b) x = it σ a (it σ b x) := by
  induction a with
  | zero => rw [Nat.zero_add]; rfl
  | succ a ih =>
    rw [show a + 1 + b = (a + b) + 1 by omega]
    show ap σ (it σ (a + b) x) = ap σ (it σ a (it σ b x))
    rw [ih]
theorem it_succ' (k x : Nat) : it σ (k + 1) x = it σ k (ap σ x) := it_add k 1 x
theorem it_comm (a b x : Nat) : it σ a (it σ b x) = it σ b (it σ a x) := by
  rw [← it_add, Nat.add_comm, it_add]
theorem IsP.it_inj (h : IsP σ) : ∀ {k x y : Nat}, it σ k x = it σ k y → x = y
  | 0, _, _, e => e
  | k + 1, _, _, e => h.it_inj (k := k) (h.ap_inj e)
theorem IsP.it_lt (h : IsP σ) {x : Nat} (hx : x < σ.length) : ∀ k, it σ k x < σ.length
  | 0 => hx
  | k + 1 => h.ap_lt (h.it_lt hx k)
theorem it_ge {x : Nat} (hx : σ.length ≤ x) : ∀ k, it σ k x = x
  | 0 => rfl
  | k + 1 => by
    show ap σ (it σ k x) = x
    rw [it_ge hx k, ap_ge hx]
theorem IsP.lt_of_it (h : IsP σ) {x k : Nat} (hx : it σ k x < σ.length) : x < σ.length := by
  by_cases h0 : x < σ.length
  · exact h0
  · rw [it_ge (Nat.le_of_not_lt h0)] at hx
    exact absurd hx h0
theorem IsP.ex_per (h : IsP σ) (x : Nat) : ∃ k, k ≤ σ.length ∧ it σ (k + 1) x = x := by
  by_cases hx : x < σ.length
  · by_cases hn : ((List.range (σ.length + 1)).map fun k => it σ k x).Nodup
    · have := nodup_le (m := List.range σ.length) hn fun y hy => by
        obtain ⟨k, _, rfl⟩ := List.mem_map.mp hy
        exact List.mem_range.mpr (h.it_lt hx k)
      simp at this
      omega
    · have : ∃ a b, a < b ∧ b ≤ σ.length ∧ it σ a x = it σ b x := by
        refine Classical.byContradiction fun hne => hn ?_
        rw [List.nodup_iff_pairwise_ne, List.pairwise_map]
        refine List.Pairwise.imp_of_mem (R := (· < ·)) ?_ List.pairwise_lt_range
        intro a b ha hb hab e
        exact hne ⟨a, b, hab, by have := List.mem_range.mp hb; omega, e⟩
      obtain ⟨a, b, hab, hb, e⟩ := this
      refine ⟨b - a - 1, by omega, ?_⟩
      refine (h.it_inj (k := a) ?_)
      rw [← it_add, show a + (b - a - 1 + 1) = b by omega, e]
  · exact ⟨0, by omega, it_ge (Nat.le_of_not_lt hx) 1⟩
end
/-- after how many times x comes back first -/
def per (σ : List Nat) (x : Nat) : Nat := (((List.range (σ.length + 1)).find? fun k => decide (it σ (k + 1) x = x)).getD 0) + 1
section
variable {σ : List Nat}
theorem per_pos (x : Nat) : 0 < per σ x := Nat.succ_pos _
theorem IsP.per_spec (h : IsP σ) (x : Nat) : it σ (per σ x) x = x ∧ per σ x ≤ σ.length + 1 ∧ ∀ k, 0 < k → k < per σ x → it σ k x ≠ x := by
  unfold per
  cases e : (List.range (σ.length + 1)).find? fun k => decide (it σ (k + 1) x = x) with
  | none =>
    obtain ⟨k, hk, hx⟩ := h.ex_per x
    have := List.find?_eq_none.mp e k (List.mem_range.mpr (by omega))
    simp [hx] at this
  | some j =>
    rw [List.find?_range_eq_some] at e
    obtain ⟨e1, e2, e3⟩ := e
    have e2 := List.mem_range.mp e2
    refine ⟨by simpa using e1, by simp; omega, fun k k0 kl hk => ?_⟩
    have := e3 (k - 1) (by simp at kl; omega)
    rw [show k - 1 + 1 = k by omega] at this
    simp [hk] at this
theorem IsP.it_per (h : IsP σ) (x : Nat) : it σ (per σ x) x = x := (h.per_spec x).1
theorem IsP.per_min (h : IsP σ) {x k : Nat} (h0 : 0 < k) (hk : it σ k x = x) : per σ x ≤ k := by
  by_cases hl : k < per σ x
  · exact absurd hk ((h.per_spec x).2.2 k h0 hl)
  · omega
theorem IsP.it_mul_per (h : IsP σ) (x : Nat) : ∀ m, it σ (m * per σ x) x = x
  | 0 => by rw [Nat.zero_mul]; rfl
  | m + 1 => by rw [Nat.succ_mul, it_add, h.it_per, h.it_mul_per x m]
theorem IsP.it_mod (h : IsP σ) (k x : Nat) : it σ (k % per σ x) x = it σ k x := by
  have e : k = k % per σ x + (k / per σ x) * per σ x := by
    have := Nat.mod_add_div k (per σ x)
    rw [Nat.mul_comm] at this
    exact this.symm
  conv => rhs; rw [e, it_add, h.it_mul_per]
theorem IsP.it_eq (h : IsP σ) {a b x : Nat} : it σ a x = it σ b x ↔ a % per σ x = b % per σ x := by
  constructor
  · intro e
    rw [← h.it_mod a, ← h.it_mod b] at e
    have ha := Nat.mod_lt a (per_pos (σ := σ) x)
    have hb := Nat.mod_lt b (per_pos (σ := σ) x)
    generalize a % per σ x = a' at *
    generalize b % per σ x = b' at *
    have key : ∀ {u v : Nat}, u < v → v < per σ x → it σ u x ≠ it σ v x := fun {u v} huv hv e => by
      have : it σ (v - u) x = x := h.it_inj (k := u) (by rw [← it_add, show u + (v - u) = v by omega, e])
      have := h.per_min (by omega) this
      omega
    rcases Nat.lt_trichotomy a' b' with q | q | q
    · exact absurd e (key q hb)
    · exact q
    · exact absurd e.symm (key q ha)
  · intro e
    rw [← h.it_mod a, ← h.it_mod b, e]
theorem IsP.per_it (h : IsP σ) (k x : Nat) : per σ (it σ k x) = per σ x := by
  have h1 : per σ (it σ k x) ≤ per σ x := h.per_min (per_pos x) (by rw [it_comm, h.it_per])
  have h2 : per σ x ≤ per σ (it σ k x) := h.per_min (per_pos _) (h.it_inj (k := k) (by rw [it_comm, h.it_per]))
  omega
end
/-- the ring of x, begun with x -/
def orb (σ : List Nat) (x : Nat) : List Nat := (List.range (per σ x)).map fun k => it σ k x
def isMin (σ : List Nat) (s : Nat) : Bool := (orb σ s).all fun y => decide (s ≤ y)
/-- the rings, each begun with its least thing, rising by these -/
def rings (σ : List Nat) : List (List Nat) := ((List.range σ.length).filter (isMin σ)).map (orb σ)
section
variable {σ : List Nat}
theorem orb_length (x : Nat) : (orb σ x).length = per σ x := by simp [orb]
theorem orb_get {x k : Nat} (hk : k < per σ x) : (orb σ x)[k]? = some (it σ k x) := by simp [orb, hk]
theorem orb_mod (h : IsP σ) (x k : Nat) : (orb σ x)[k % (orb σ x).length]? = some (it σ k x) := by
  rw [orb_length, orb_get (Nat.mod_lt _ (per_pos x)), h.it_mod]
theorem mem_orb (h : IsP σ) {x y : Nat} : y ∈ orb σ x ↔ ∃ k, it σ k x = y := by
  constructor
  · intro hy
    obtain ⟨k, _, e⟩ := List.mem_map.mp hy
    exact ⟨k, e⟩
  · rintro ⟨k, rfl⟩
    exact List.mem_map.mpr ⟨k % per σ x, List.mem_range.mpr (Nat.mod_lt _ (per_pos x)), h.it_mod k x⟩
theorem self_orb (h : IsP σ) (x : Nat) : x ∈ orb σ x := (mem_orb h).mpr ⟨0, rfl⟩
theorem orb_symm (h : IsP σ) {x y : Nat} (hy : y ∈ orb σ x) : x ∈ orb σ y := by
  obtain ⟨k, rfl⟩ := (mem_orb h).mp hy
  refine (mem_orb h).mpr ⟨k * (per σ x - 1), ?_⟩
  rw [← it_add]
  have e : k * (per σ x - 1) + k = k * per σ x := by
    have := per_pos (σ := σ) x
    rw [← Nat.mul_succ]
    congr 1
  rw [e, h.it_mul_per]
theorem orb_trans (h : IsP σ) {x y z : Nat} (hy : y ∈ orb σ x) (hz : z ∈ orb σ y) : z ∈ orb σ x := by
  obtain ⟨a, rfl⟩ := (mem_orb h).mp hy
  obtain ⟨b, rfl⟩ := (mem_orb h).mp hz
  exact (mem_orb h).mpr ⟨b + a, it_add b a x⟩
theorem orb_nodup (h : IsP σ) (x : Nat) : (orb σ x).Nodup := by
  unfold orb
  rw [List.nodup_iff_pairwise_ne, List.pairwise_map]
  refine List.Pairwise.imp_of_mem (R := (· < ·)) ?_ List.pairwise_lt_range
  intro a b ha hb hab e
  rw [h.it_eq] at e
  have ha := List.mem_range.mp ha
  have hb := List.mem_range.mp hb
  rw [Nat.mod_eq_of_lt ha, Nat.mod_eq_of_lt hb] at e
  omega
theorem orb_lt (h : IsP σ) {x y : Nat} (hx : x < σ.length) (hy : y ∈ orb σ x) : y < σ.length := by
  obtain ⟨k, rfl⟩ := (mem_orb h).mp hy
  exact h.it_lt hx k
theorem per_le (h : IsP σ) {x : Nat} (hx : x < σ.length) : per σ x ≤ σ.length := by
  have := nodup_le (m := List.range σ.length) (orb_nodup h x) fun y hy => List.mem_range.mpr (orb_lt h hx hy)
  simpa [orb_length] using this
theorem isMin_iff (h : IsP σ) {s : Nat} : isMin σ s = true ↔ ∀ y ∈ orb σ s, s ≤ y := by
  unfold isMin
  rw [List.all_eq_true]
  simp
/-- every thing lies in the ring of a least one -/
theorem ex_min (h : IsP σ) (x : Nat) : ∃ s, isMin σ s = true ∧ s ∈ orb σ x ∧ x ∈ orb σ s := by
  have hne : orb σ x ≠ [] := List.ne_nil_of_mem (self_orb h x)
  have hm := List.min?_eq_some_iff (xs := orb σ x) (a := (orb σ x).min hne) |>.mp (List.min?_eq_some_min hne)
  refine ⟨(orb σ x).min hne, (isMin_iff h).mpr fun y hy => hm.2 y (orb_trans h hm.1 hy), hm.1, orb_symm h hm.1⟩
theorem min_uniq (h : IsP σ) {s t : Nat} (hs : isMin σ s = true) (ht : isMin σ t = true) (e : t ∈ orb σ s) : s = t := by
  have h1 := (isMin_iff h).mp hs t e
  have h2 := (isMin_iff h).mp ht s (orb_symm h e)
  omega
theorem mem_rings (h : IsP σ) {r : List Nat} : r ∈ rings σ ↔ ∃ s, s < σ.length ∧ isMin σ s = true ∧ r = orb σ s := by
  unfold rings
  rw [List.mem_map]
  constructor
  · rintro ⟨s, hs, rfl⟩
    obtain ⟨h1, h2⟩ := List.mem_filter.mp hs
    exact ⟨s, List.mem_range.mp h1, h2, rfl⟩
  · rintro ⟨s, h1, h2, rfl⟩
    exact ⟨s, List.mem_filter.mpr ⟨List.mem_range.mpr h1, h2⟩, rfl⟩
end
end AO
namespace AO
section
variable {σ : List Nat}
theorem isMin_false (h : IsP σ) {i : Nat} : isMin σ i = false ↔ ∃ t, t < i ∧ i ∈ orb σ t := by
  constructor
  · intro hf
    have : ¬ ∀ y ∈ orb σ i, i ≤ y := fun hh => by
      rw [(isMin_iff h).mpr hh] at hf
      cases hf
    refine Classical.byContradiction fun hn => this fun y hy => ?_
    by_cases hl : i ≤ y
    · exact hl
    · exact absurd ⟨y, by omega, orb_symm h hy⟩ hn
  · rintro ⟨t, ht, hm⟩
    cases e : isMin σ i with
    | false => rfl
    | true =>
      have := (isMin_iff h).mp e t (orb_symm h hm)
      omega
/-- what stands in the list of what was seen, ahead of the start i and k things on -/
def SeenAt (σ : List Nat) (i k : Nat) (x : Nat) : Prop := (∃ t, t < i ∧ x ∈ orb σ t) ∨ ∃ j, j < k ∧ x = it σ j i
theorem seen_end (h : IsP σ) {i k : Nat} (hk : k ≤ per σ i) (hf : 0 < k → isMin σ i = true) (hs : SeenAt σ i k (it σ k i)) : (k = 0 ∧ isMin σ i = false) ∨ (k = per σ i ∧ isMin σ i = true) := by
  by_cases h0 : k = 0
  · subst h0
    rcases hs with hs | ⟨j, hj, _⟩
    · exact .inl ⟨rfl, (isMin_false h).mpr hs⟩
    · omega
  · have hm := hf (by omega)
    refine .inr ⟨?_, hm⟩
    rcases hs with ⟨t, ht, hs⟩ | ⟨j, hj, e⟩
    · have h1 : i ∈ orb σ t := orb_trans h hs (orb_symm h ((mem_orb h).mpr ⟨k, rfl⟩))
      have h2 := (isMin_false h).mpr ⟨t, ht, h1⟩
      rw [hm] at h2
      cases h2
    · rw [h.it_eq] at e
      by_cases hl : k < per σ i
      · rw [Nat.mod_eq_of_lt hl, Nat.mod_eq_of_lt (by omega)] at e
        omega
      · omega
theorem seen_not (h : IsP σ) {i k : Nat} (hk : k ≤ per σ i) (hs : ¬ SeenAt σ i k (it σ k i)) : k < per σ i := by
  by_cases hl : k < per σ i
  · exact hl
  · have e : k = per σ i := by omega
    refine absurd (.inr ⟨0, ?_, ?_⟩) hs
    · have := per_pos (σ := σ) i
      omega
    · rw [e, h.it_per]
      rfl
theorem not_seen_min (h : IsP σ) {i k : Nat} (hs : ¬ SeenAt σ i k (it σ k i)) : isMin σ i = true := by
  cases e : isMin σ i with
  | true => rfl
  | false =>
    obtain ⟨t, ht, hm⟩ := (isMin_false h).mp e
    exact absurd (.inl ⟨t, ht, orb_trans h hm ((mem_orb h).mpr ⟨k, rfl⟩)⟩) hs
theorem rings_upto_succ (i : Nat) : ((List.range (i + 1)).filter (isMin σ)).map (orb σ) = if isMin σ i = true then ((List.range i).filter (isMin σ)).map (orb σ) ++ [orb σ i] else ((List.range i).filter (isMin σ)).map (orb σ) := by
  rw [List.range_succ, List.filter_append, List.map_append]
  cases e : isMin σ i <;> simp [e]
theorem seen_step {i : Nat} (x : Nat) : (∃ t, t < i + 1 ∧ x ∈ orb σ t) ↔ (∃ t, t < i ∧ x ∈ orb σ t) ∨ x ∈ orb σ i := by
  constructor
  · rintro ⟨t, ht, hm⟩
    by_cases e : t = i
    · subst e
      exact .inr hm
    · exact .inl ⟨t, by omega, hm⟩
  · rintro (⟨t, ht, hm⟩ | hm)
    · exact ⟨t, by omega, hm⟩
    · exact ⟨i, by omega, hm⟩
theorem seen_after (h : IsP σ) {i k : Nat} (he : (k = 0 ∧ isMin σ i = false) ∨ (k = per σ i ∧ isMin σ i = true)) (x : Nat) : SeenAt σ i k x ↔ ∃ t, t < i + 1 ∧ x ∈ orb σ t := by
  rw [seen_step]
  rcases he with ⟨rfl, hm⟩ | ⟨rfl, hm⟩
  · constructor
    · rintro (hs | ⟨j, hj, _⟩)
      · exact .inl hs
      · omega
    · rintro (hs | hs)
      · exact .inl hs
      · obtain ⟨t, ht, hi⟩ := (isMin_false h).mp hm
        exact .inl ⟨t, ht, orb_trans h hi hs⟩
  · constructor
    · rintro (hs | ⟨j, hj, rfl⟩)
      · exact .inl hs
      · exact .inr ((mem_orb h).mpr ⟨j, rfl⟩)
    · rintro (hs | hs)
      · exact .inl hs
      · obtain ⟨j, hj, rfl⟩ := List.mem_map.mp hs
        exact .inr ⟨j, List.mem_range.mp hj, rfl⟩
theorem orb_upto (i : Nat) : orb σ i = (List.range (per σ i)).map fun j => it σ j i := rfl
theorem it_upto_succ (k i : Nat) : ((List.range (k + 1)).map fun j => it σ j i) = ((List.range k).map fun j => it σ j i) ++ [it σ k i] := by
  rw [List.range_succ, List.map_append]
  rfl
theorem getD_set {α : Type} {l : List α} {i j : Nat} {a d : α} (hi : i < l.length) : (l.set i a).getD j d = if j = i then a else l.getD j d := by
  rw [List.getD_eq_getElem?_getD, List.getD_eq_getElem?_getD]
  by_cases e : j = i
  · subst e
    rw [List.getElem?_set_self hi, if_pos rfl]
    rfl
  · rw [List.getElem?_set_ne (Ne.symm e), if_neg e]
end
end AO
set_option Elab.async false
set_option linter.all false
set_option maxRecDepth 100000
set_option maxHeartbeats 4000000
/-! AOSort: sorted(e, key=lambda x: (.., ..)) over the layer. -/
namespace AO
open PySem PySem.Spec PyProof.Rows L2 LamX SrtO
/-- the very object at p -/
def XO (p : Addr) (o : Obj) : HO := .ext fun h => h.get? p = some o
theorem xo_ok {P : Program} {w : World} {H : Hp} {h : Heap} {p : Addr} {o : Obj} (e : h.get? p = some o) : ObjOk P w H h p (XO p o) := ⟨e, ⟨o, e⟩, fun h1 h2 e1 k => k o e1⟩
theorem perm_map {α β : Type} {g : α → β} : ∀ {l : List β} {l' : List β}, l.Perm l' → ∀ m : List α, l' = m.map g → ∃ m' : List α, m'.Perm m ∧ l = m'.map g := by
  intro l l' h
  induction h with
  | nil => intro m e; exact ⟨m, .refl _, e⟩
  | cons x _ ih =>
    intro m e
    cases m with
    | nil => cases e
    | cons a m =>
      rw [List.map_cons] at e
      injection e with e1 e2
      obtain ⟨m', p, q⟩ := ih m e2
      exact ⟨a :: m', .cons a p, by rw [List.map_cons, ← q, e1]⟩
  | swap x y l =>
    intro m e
    match m, e with
    | a :: b :: m, e =>
      simp only [List.map_cons, List.cons.injEq] at e
      obtain ⟨e1, e2, e3⟩ := e
      exact ⟨b :: a :: m, .swap a b m, by simp [e1, e2, e3]⟩
  | trans _ _ ih1 ih2 =>
    intro m e
    obtain ⟨m1, p1, q1⟩ := ih2 m e
    obtain ⟨m2, p2, q2⟩ := ih1 m1 q1
    exact ⟨m2, p2.trans p1, q2⟩
section
variable {X : Cx} {pins : List (Addr × Obj)} {σ : L2.St} {H : Hp} {s : Shared}
/-- a lambda of one parameter called -/
theorem lam_run {f c' : Addr} {q x : Str} {params : Arguments} {body : Expr} {scope : Scope} {pm ctv : Value} {A : Around} {k : Nat} {u : Value} {v : V} {Q : VK} {t : TE} (I : Inv X pins σ H s) (hA : A.frames = some X.stack) (hr : Room (k + 1) A) (S : FnScope [x] [x] scope)
    (hf : s.heap.get? f = some (PySem.W.kla_obj "<lambda>" q params body scope [] pm c' ctv)) (hc : H c' = some (CodeO c' q)) (hb : bindArgs (PySem.W.kla_fn "<lambda>" q params body scope [] pm (.ref c') ctv) ⟨[u], []⟩ = pure [(x, u)]) (r : RelV v u)
    (hbody : PE (cxOf CX0 X.prog X.w X.K X.mg X.base [x] q scope f (.ref c') A X.stack s H E0).nox body t) (ht : t (L2.start [x] [v]) H Q) :
    codeAny (model X.prog X.w) A (.call (.ref f) ⟨[u], []⟩) (CR CX0 X.stack X.prog X.w H s Q E0) s := by
  have e0 : Env0 X.prog X.w X.K X.mg X.base A X.stack s H := ⟨hA, I.env0.mod, I.env0.bs, I.env0.bsz, I.env0.funs, I.env0.frf, I.env0.hok, I.env0.bare⟩
  obtain ⟨⟨oc, vs, tk, hoc, hdc, hvc⟩, _, _⟩ := I.hok c' _ hc
  have lim : s.heap.NoLimit := I.nolimit
  refine PySem.W.kla_callFunE hr.depth hf rfl S.co S.gen rfl ⟨c', oc, vs, tk, rfl, hoc, hdc, hvc⟩ ?_
  rw [hb]
  have hkind : ∀ y ∈ [(x, u)], scope.names.lookup y.1 = some .local ∨ (scope.names.lookup y.1 = some .cell ∧ ((cellsFrom (s.heap.objs.size + 1) scope.names []).lookup y.1).isSome = true) := fun y hy => by
    obtain rfl : y = (x, u) := List.mem_singleton.mp hy
    rcases S.par x (List.mem_singleton.mpr rfl) with z | z
    · exact .inl z
    · exact .inr ⟨z, PySem.W.cellsFrom_some _ _ _ (.inl z)⟩
  refine wpAny_pure (wpAny_newFunctionEnv_cells S.kind hkind fun env he s1 xc => ?_)
  subst he
  refine ⟨lim.keeps xc.toInCall.keep, ?_⟩
  have J : Inv (cxOf CX0 X.prog X.w X.K X.mg X.base [x] q scope f (.ref c') A X.stack s H E0) [] (L2.start [x] [v]) H s1 := inv_start (ps := [x]) (us := [u]) S hr.hd e0 rfl (.cons r .nil) xc
  refine PySem.W.kla_codeExpr (wpAny_mono (hbody.nox.run [] s1 _ H Q J ht) (fun v' s' hq => ?_) fun e s' hq => hq)
  obtain ⟨w', H', J', rv, q'⟩ := hq
  exact ⟨w', H', J'.os, J'.bare, J'.base, J'.hok, rv, q'⟩
/-- what the keys are read as -/
def kOf (H : Hp) : Value → Int × Int
  | .ref t => (match H t with
    | some (.tup [.int a, .int b]) => (a, b)
    | _ => (0, 0))
  | _ => (0, 0)
theorem kOf_at {H : Hp} {t : Addr} {a b : Int} (h : H t = some (.tup [.int a, .int b])) : kOf H (.ref t) = (a, b) := by
  show (match H t with
    | some (.tup [.int a, .int b]) => (a, b)
    | _ => (0, 0)) = (a, b)
  rw [h]
def lexZ (p q : Int × Int) : Prop := p.1 < q.1 ∨ (p.1 = q.1 ∧ p.2 ≤ q.2)
/-- behind i of the keys -/
structure KeysAt (X : Cx) (pins : List (Addr × Obj)) (σ : L2.St) (T : List (Addr × Str)) (H1 : Hp) (a kS f : Addr) (oa of : Obj) (kz : List (Int × Int)) (i : Nat) (s' : Shared) (Hi : Hp) (kA : Array Value) : Prop where
  I : Inv X pins σ Hi s'
  ext : LamX.ExtN H1 Hi
  tb : LamX.Tabs T Hi
  ha : Hi a = some (XO a oa)
  hk : ∃ e, Hi kS = some (XO kS (seqObj "list" kA e))
  hf : s'.heap.get? f = some of ∧ Hi f = none
  sz : kA.size = i
  keys : ∀ j, j < i → ∃ t k, kA[j]? = some (.ref t) ∧ kz[j]? = some k ∧ Hi t = some (.tup [.int k.1, .int k.2])
theorem XO.get {P : Program} {w : World} {H : Hp} {h : Heap} {p : Addr} {o : Obj} (ok : HOk P w H h) (e : H p = some (XO p o)) : h.get? p = some o := (ok p _ e).1
theorem xo_tup {p : Addr} {o : Obj} {xs : List V} : XO p o ≠ .tup xs := fun z => by unfold XO at z; cases z
theorem xo_tbl {p : Addr} {o : Obj} (ps : Array Value) : XO p o ≠ .tbl ps := fun z => by unfold XO at z; cases z
theorem tabs_updN {T : List (Addr × Str)} {H : Hp} {p : Addr} {u : HO} (t : LamX.Tabs T H) (h : H p = none) : LamX.Tabs T (upd H p u) := LamX.Tabs.ext t fun b o e => by
  rw [upd_ne (ne_of_none e h)]
  exact e
/-- a def of our own stands at p: written, the tables stay -/
theorem tabs_updX {T : List (Addr × Str)} {H : Hp} {p : Addr} {o : Obj} {u : HO} {h : Heap} {P : Program} {w : World} (ok : HOk P w H h) (t : LamX.Tabs T H) (hp : H p = some (XO p o)) (hs : ∃ vs n, o.data = .seq vs n) : LamX.Tabs T (upd H p u) := fun q hq => by
  obtain ⟨ps, h1, h2, h3⟩ := t q hq
  refine ⟨ps, ?_, h2, fun pos cv hc => ?_⟩
  · have hb : q.1 ≠ p := fun e => by
      rw [e, hp] at h1
      exact xo_tbl ps (Option.some.inj h1)
    rw [upd_ne hb]
    exact h1
  · obtain ⟨c, e1, e2⟩ := h3 pos cv hc
    refine ⟨c, e1, ?_⟩
    have hb : c ≠ p := fun e => by
      rw [e] at e2
      have k1 := XO.get ok hp
      obtain ⟨⟨oc, vs, tk, k2, k3, _⟩, _, _⟩ := ok p _ e2
      rw [k1] at k2
      cases k2
      obtain ⟨vs', n, k4⟩ := hs
      rw [k4] at k3
      cases k3
    rw [upd_ne hb]
    exact e2
theorem extN_upd {H1 H : Hp} {p : Addr} {u : HO} (e : LamX.ExtN H1 H) (h : Nw H1 p) : LamX.ExtN H1 (upd H p u) := fun b o hb hn => by
  have hne : b ≠ p := fun z => by
    rw [z] at hb
    obtain ⟨ps, hp⟩ := h o hb
    exact hn ps hp
  rw [upd_ne hne]
  exact e b o hb hn
/-- one more key -/
theorem keys_turn {T : List (Addr × Str)} {H1 : Hp} {a kS f c' : Addr} {oa : Obj} {kz : List (Int × Int)} {i : Nat} {s' : Shared} {Hi : Hp} {kA : Array Value} {q x : Str} {params : Arguments} {body : Expr} {scope : Scope} {pm ctv : Value} {A : Around} {k : Nat} {u : Value} {v : V} {t : TE} {z : Int × Int} {R : Value → Shared → Prop}
    (J : KeysAt X pins σ T H1 a kS f oa (PySem.W.kla_obj "<lambda>" q params body scope [] pm c' ctv) kz i s' Hi kA) (hA : A.frames = some X.stack) (hr : Room (k + 1) A) (S : FnScope [x] [x] scope) (hc : H1 c' = some (CodeO c' q)) (hb : ∀ u, bindArgs (PySem.W.kla_fn "<lambda>" q params body scope [] pm (.ref c') ctv) ⟨[u], []⟩ = pure [(x, u)]) (r : RelV v u) (hz : kz[i]? = some z) (hi : i < 1000)
    (nS : Nw H1 kS) (na : a ≠ kS) (nf : f ∉ frs X.stack)
    (hbody : PE (cxOf CX0 X.prog X.w X.K X.mg X.base [x] q scope f (.ref c') A X.stack s' Hi E0).nox body t)
    (ht : ∀ H, LamX.ExtN H1 H → LamX.Tabs T H → t (L2.start [x] [v]) H fun w H' => ∃ p, w = .ref p ∧ H p = none ∧ H' = upd H p (.tup [.int z.1, .int z.2]))
    (h : ∀ p s'' e0 Hj, s''.heap.get? kS = some (seqObj "list" kA e0) → KeysAt X pins σ T H1 a kS f oa (PySem.W.kla_obj "<lambda>" q params body scope [] pm c' ctv) kz (i + 1) { s'' with heap := s''.heap.update kS (Obj.mapSeq (·.push (.ref p))) } Hj (kA.push (.ref p)) → R (.ref p) s'') :
    wpAny (model X.prog X.w) A (call (.ref f) [u]) R (fun _ _ => False) s' := by
  obtain ⟨e0, hk⟩ := J.hk
  have hcI : Hi c' = some (CodeO c' q) := J.ext c' _ hc fun ps z => by unfold CodeO at z; cases z
  have hrun := lam_run (X := X) (pins := pins) (σ := σ) (s := s') (A := A) J.I hA hr S J.hf.1 hcI (hb u) r hbody (ht Hi J.ext J.tb)
  refine wpAny_mono (wpAny_call (Q := fun w s'' => CE X.stack X.prog X.w Hi s' (fun w H' => ∃ p, w = .ref p ∧ Hi p = none ∧ H' = upd Hi p (.tup [.int z.1, .int z.2])) w s'') (E := fun _ _ => False) (codeAny_mono hrun fun r s'' hq => ?_)) (fun w s'' he => ?_) fun _ _ hF => hF.elim
  · cases r with
    | error e => exact (show False from hq).elim
    | ok fl =>
      cases fl with
      | ret u => exact hq
      | next => exact False.elim hq
      | brk => exact False.elim hq
      | cont => exact False.elim hq
  · obtain ⟨w', H', os, bare, un, hok, rw', p, rfl, hp, rfl⟩ := he
    obtain rfl : w = Value.ref p := rw'
    obtain ⟨w2, H2, I2, _, rfl, rfl⟩ := J.I.after (Q := fun w2 H2 => w2 = .ref p ∧ H2 = upd Hi p (.tup [.int z.1, .int z.2])) ⟨.ref p, _, os, bare, un, hok, rfl, rfl, rfl⟩
    have neS : kS ≠ p := ne_of_none hk hp
    have neA : a ≠ p := ne_of_none J.ha hp
    have hk2 : (upd Hi p (.tup [.int z.1, .int z.2])) kS = some (XO kS (seqObj "list" kA e0)) := by rw [upd_ne neS]; exact hk
    have raw := XO.get I2.hok hk2
    have e2 : LamX.ExtN H1 (upd Hi p (.tup [.int z.1, .int z.2])) := fun b o hb hn => by
      rw [upd_ne (ne_of_none (J.ext b o hb hn) hp)]
      exact J.ext b o hb hn
    have s1 := Heap.SameBut.update s''.heap kS (Obj.mapSeq (·.push (.ref p)))
    obtain ⟨c2, hc2⟩ : ∃ c2, (s''.heap.update kS (Obj.mapSeq (·.push (.ref p)))).get? kS = some (seqObj "list" (kA.push (.ref p)) c2) := ⟨_, get?_update_seq raw (·.push (.ref p))⟩
    have hsl : (1001 : Nat) ≤ sizeLine := by decide
    have hsz := J.sz
    have frz : s''.heap.get? f = some _ := un.keep f _ J.hf.1 J.hf.2 nf (by simp)
    have ff : (upd Hi p (.tup [.int z.1, .int z.2])) f = none := un.free f _ J.hf.1 J.hf.2 (by simp)
    have fS : f ≠ kS := fun z => by
      have h1 := J.hf.2
      rw [z, hk] at h1
      cases h1
    refine h p s'' e0 (upd (upd Hi p (.tup [.int z.1, .int z.2])) kS (XO kS (seqObj "list" (kA.push (.ref p)) c2))) raw ⟨?_, ?_, ?_, ?_, ⟨c2, upd_same⟩, ?_, by simp [J.sz], fun j hj => ?_⟩
    · exact I2.write (e := kS) (t' := s''.toks) (by rw [hk2]; trivial) (.inl rfl) (fun b u hb hu => (s1.2 b hb).trans hu) ⟨_, hc2⟩ (xo_ok hc2)
    · exact extN_upd e2 nS
    · exact tabs_updX I2.hok (tabs_updN J.tb hp) hk2 ⟨_, _, rfl⟩
    · rw [upd_ne na, upd_ne neA]
      exact J.ha
    · exact ⟨(s1.2 f fS).trans frz, by rw [upd_ne fS]; exact ff⟩
    · by_cases hjl : j < i
      · obtain ⟨t0, k0, h1, h2, h3⟩ := J.keys j hjl
        refine ⟨t0, k0, ?_, h2, ?_⟩
        · rw [Array.getElem?_push_lt (by rw [hsz]; exact hjl)]
          rw [Array.getElem?_eq_getElem (by rw [hsz]; exact hjl)] at h1
          exact h1
        · have n1 : t0 ≠ kS := fun e => by
            rw [e, hk] at h3
            exact xo_tup (Option.some.inj h3)
          rw [upd_ne n1, upd_ne (ne_of_none h3 hp)]
          exact h3
      · have : j = i := by omega
        subst this
        refine ⟨p, z, ?_, hz, ?_⟩
        · rw [← hsz, Array.getElem?_push_size]
        · rw [upd_ne (fun e => neS e.symm), upd_same]
theorem vals_pick {vs : List V} {its : List Value} (rv : Vals vs its) : ∀ js : List Nat, (∀ j ∈ js, j < its.length) → Vals (js.map fun j => vs.getD j .non) (js.map fun j => its.getD j .none)
  | [], _ => .nil
  | j :: js, hjl => by
    have hj := hjl j (List.mem_cons_self ..)
    have hvl := rv.length
    refine .cons ?_ (vals_pick rv js fun i hi => hjl i (List.mem_cons_of_mem _ hi))
    obtain ⟨u, hu, r⟩ := rv.get (i := j) (x := vs[j]'(by omega)) (List.getElem?_eq_getElem (by omega))
    show RelV (vs.getD j .non) (its.getD j .none)
    rw [List.getD_eq_getElem?_getD, List.getD_eq_getElem?_getD, List.getElem?_eq_getElem (by omega), hu]
    exact r
theorem lexZ_of {p q : Int × Int} (h : lexB q p = false) : lexZ p q := by
  have := lexB_no.mp h
  unfold lexZ
  omega
theorem swo_k (g : Value → Int × Int) : Swo fun v u => lexB (g v) (g u) := swo_lex g
/-- the keys made, the sort run, the list filled again -/
theorem rest_lam {T : List (Addr × Str)} {H1 H5 : Hp} {a kS f c' : Addr} {e1 : Nat} {its : List Value} {vs : List V} {kz : List (Int × Int)} {s5 : Shared} {q x : Str} {params : Arguments} {body : Expr} {scope : Scope} {pm ctv : Value} {A : Around} {k : Nat} {t : TE} {R : PySem.Fin → Shared → Prop} {E : Value → Shared → Prop}
    (J0 : KeysAt X pins σ T H1 a kS f (seqObj "list" #[] e1) (PySem.W.kla_obj "<lambda>" q params body scope [] pm c' ctv) kz 0 s5 H5 #[]) (hA : A.frames = some X.stack) (hr : Room (k + 1) A) (S : FnScope [x] [x] scope) (hc : H1 c' = some (CodeO c' q)) (hb : ∀ u, bindArgs (PySem.W.kla_fn "<lambda>" q params body scope [] pm (.ref c') ctv) ⟨[u], []⟩ = pure [(x, u)])
    (rv : Vals vs its) (hn : its.length ≤ 900) (hkz : kz.length = its.length) (nS : Nw H1 kS) (nA : Nw H1 a) (na : a ≠ kS) (nf : f ∉ frs X.stack)
    (hbody : ∀ (s : Shared) (Hi : Hp), PE (cxOf CX0 X.prog X.w X.K X.mg X.base [x] q scope f (.ref c') A X.stack s Hi E0).nox body t)
    (ht : ∀ (i : Nat) (v : V) (z : Int × Int), vs[i]? = some v → kz[i]? = some z → ∀ H2, LamX.ExtN H1 H2 → LamX.Tabs T H2 → t (L2.start [x] [v]) H2 fun w H' => ∃ p, w = .ref p ∧ H2 p = none ∧ H' = upd H2 p (.tup [.int z.1, .int z.2]))
    (h : ∀ (s' : Shared) (H2 : Hp) (js : List Nat), LamX.ExtN H1 H2 → LamX.Tabs T H2 → js.Perm (List.range its.length) → js.Pairwise (fun i j => lexZ (kz.getD i (0, 0)) (kz.getD j (0, 0))) → H2 a = some (.lst (js.map fun j => vs.getD j .non)) → Inv X pins σ H2 s' → R (.done (.ret .none)) s') :
    wpAny (model X.prog X.w) A (ksk_rest a (.ref f) false its.toArray e1 (.ref kS)) R E s5 := by
  have hsl : (1001 : Nat) ≤ sizeLine := by decide
  have hvl := rv.length
  unfold ksk_rest
  refine wpAny_bind (wpAny_rule ?_)
  first
    | rw [List.forIn_toArray]
    | (rw [← Array.forIn_toList]; simp only [List.toList_toArray])
    | rw [← Array.forIn_toList]
  refine wpAny_bind (ksk_fold (fun i s' => ∃ Hi kA, KeysAt X pins σ T H1 a kS f (seqObj "list" #[] e1) (PySem.W.kla_obj "<lambda>" q params body scope [] pm c' ctv) kz i s' Hi kA) its 0 _ ⟨H5, #[], ?_⟩ ?step ?done)
  · obtain ⟨j1, j2, j3, j4, j5, j6, j7, j8⟩ := J0
    exact ⟨j1.tok _, j2, j3, j4, j5, j6, j7, j8⟩
  case step =>
    rintro j u s' hu ⟨Hi, kA, J⟩
    simp only [Nat.zero_add] at J ⊢
    obtain ⟨hj, _⟩ := List.getElem?_eq_some_iff.mp hu
    obtain ⟨v, hv⟩ : ∃ v, vs[j]? = some v := ⟨_, List.getElem?_eq_getElem (by omega)⟩
    obtain ⟨z, hz⟩ : ∃ z, kz[j]? = some z := ⟨_, List.getElem?_eq_getElem (by omega)⟩
    obtain ⟨u', hu', r⟩ := rv.get hv
    rw [hu] at hu'
    cases hu'
    refine wpAny_bind (wpAny_attempt (wpAny_mono (keys_turn (R := fun w s'' => ∃ p e0 Hj, w = .ref p ∧ s''.heap.get? kS = some (seqObj "list" kA e0) ∧ KeysAt X pins σ T H1 a kS f (seqObj "list" #[] e1) (PySem.W.kla_obj "<lambda>" q params body scope [] pm c' ctv) kz (j + 1) { s'' with heap := s''.heap.update kS (Obj.mapSeq (·.push (.ref p))) } Hj (kA.push (.ref p))) J hA hr S hc hb r hz (by omega) nS na nf (hbody _ _) (ht j v z hv hz) fun p s'' e0 Hj raw J2 => ⟨p, e0, Hj, rfl, raw, J2⟩) (fun w s'' hw => ?_) fun _ _ hF => hF.elim))
    obtain ⟨p, e0, Hj, rfl, raw, J2⟩ := hw
    try dsimp only
    refine wpAny_bind (listUpdate_at raw rfl ?_ (by rw [J.sz]; omega) (by rw [Array.size_push, J.sz]; omega))
    exact wpAny_pure ⟨rfl, Hj, _, J2⟩
  case done =>
    rintro s' ⟨Hi, kA, J⟩
    rw [Nat.zero_add] at J
    obtain ⟨e0, hk⟩ := J.hk
    have raw := XO.get J.I.hok hk
    have rawA := XO.get J.I.hok J.ha
    have ksz := J.sz
    try dsimp only
    refine wpAny_bind (listItems_at raw rfl ?_)
    unfold ksk_end
    try dsimp only
    rw [if_neg Bool.false_ne_true]
    -- what the sort gives
    have fin : ∀ st' : SortSt, (∃ js : List Nat, js.Perm (List.range its.length) ∧ js.Pairwise (fun i j => lexZ (kz.getD i (0, 0)) (kz.getD j (0, 0))) ∧ (arrOf st').toList.map (·.2) = js.map fun j => its.getD j .none) → failedOf st' = none →
        wpAny (model X.prog X.w) A (ksk_tail a false e1 (.ref kS) st') R E s' := by
      rintro st' ⟨js, hp, hpw, hout⟩ hfl
      have hlen : (arrOf st').size = its.length := by
        have h1 := congrArg List.length hout
        rw [List.length_map, List.length_map, hp.length_eq, List.length_range, Array.length_toList] at h1
        exact h1
      have s1 := Heap.SameBut.update s'.heap kS (Obj.mapSeq fun _ => (#[] : Array Value))
      have na1 : (s'.heap.update kS (Obj.mapSeq fun _ => (#[] : Array Value))).get? a = some (seqObj "list" #[] e1) := (s1.2 a na).trans rawA
      obtain ⟨c1, hc1⟩ : ∃ c1, (s'.heap.update kS (Obj.mapSeq fun _ => (#[] : Array Value))).get? kS = some (seqObj "list" #[] c1) := ⟨_, get?_update_seq raw fun _ => #[]⟩
      have s2 := Heap.SameBut.update (s'.heap.update kS (Obj.mapSeq fun _ => (#[] : Array Value))) a (Obj.mapSeq fun _ => (arrOf st').map (·.2))
      obtain ⟨c2, hc2⟩ : ∃ c2, ((s'.heap.update kS (Obj.mapSeq fun _ => (#[] : Array Value))).update a (Obj.mapSeq fun _ => (arrOf st').map (·.2))).get? a = some (seqObj "list" ((arrOf st').map (·.2)) c2) := ⟨_, get?_update_seq na1 fun _ => (arrOf st').map (·.2)⟩
      unfold ksk_tail
      try dsimp only
      refine wpAny_bind (listUpdate_at raw rfl ?_ (by rw [ksz]; omega) (Nat.zero_le _))
      refine wpAny_bind (wpAny_letGo ?_)
      refine wpAny_bind (seqEpoch_at na1 rfl ?_)
      refine wpAny_bind (listUpdate_at na1 rfl ?_ (Nat.zero_le _) (by rw [if_neg Bool.false_ne_true, Array.size_map, hlen]; omega))
      rw [hfl]
      simp only [bne_self_eq_false, Bool.false_eq_true, if_false]
      have I1 : Inv X pins σ (upd Hi kS (XO kS (seqObj "list" #[] c1))) { s' with heap := s'.heap.update kS (Obj.mapSeq fun _ => (#[] : Array Value)) } :=
        J.I.write (e := kS) (t' := s'.toks) (by rw [hk]; trivial) (.inl rfl) (fun b u hb hu => (s1.2 b hb).trans hu) ⟨_, hc1⟩ (xo_ok hc1)
      have ha1 : (upd Hi kS (XO kS (seqObj "list" #[] c1))) a = some (XO a (seqObj "list" #[] e1)) := by
        rw [upd_ne na]
        exact J.ha
      have vout : Vals (js.map fun j => vs.getD j .non) ((arrOf st').map (·.2)).toList := by
        rw [Array.toList_map, hout]
        exact vals_pick rv js fun j hj => List.mem_range.mp (hp.mem_iff.mp hj)
      have I2 : Inv X pins σ (upd (upd Hi kS (XO kS (seqObj "list" #[] c1))) a (.lst (js.map fun j => vs.getD j .non))) { s' with heap := (s'.heap.update kS (Obj.mapSeq fun _ => (#[] : Array Value))).update a (Obj.mapSeq fun _ => (arrOf st').map (·.2)) } :=
        I1.write (e := a) (t' := s'.toks) (by rw [ha1]; trivial) (.inl rfl) (fun b u hb hu => (s2.2 b hb).trans hu) ⟨_, hc2⟩ ⟨by rw [List.length_map, hp.length_eq, List.length_range]; omega, _, c2, vout, by rw [Array.toArray_toList]; exact hc2⟩
      refine wpAny_pure (h _ _ js (extN_upd (extN_upd J.ext nS) nA) (tabs_updX I1.hok (tabs_updX J.I.hok J.tb hk ⟨_, _, rfl⟩) ha1 ⟨_, _, rfl⟩) hp hpw upd_same (I2.tok _))
    have ezip : (kA.zip its.toArray).toList = (List.range its.length).map fun j => (kA.getD j .none, its.getD j .none) := by
      rw [ksk_zip]
      apply List.ext_getElem
      · simp [ksz]
      · intro j h1 h2
        have hj : j < its.length := by simpa using h2
        simp [Array.getD, ksz, hj, List.getD_eq_getElem?_getD]
    have keyAt : ∀ j, j < its.length → ∃ t, kA.getD j .none = .ref t ∧ Hi t = some (.tup [.int (kz.getD j (0, 0)).1, .int (kz.getD j (0, 0)).2]) := fun j hj => by
      obtain ⟨t, z, h1, h2, h3⟩ := J.keys j hj
      refine ⟨t, by rw [Array.getD_eq_getD_getElem?, h1] <;> rfl, ?_⟩
      rw [List.getD_eq_getElem?_getD, h2]
      exact h3
    by_cases h2 : its.toArray.size < 2
    · rw [if_pos h2, if_pos h2]
      refine wpAny_bind (wpAny_pure ?_)
      rw [StateT.run_pure]
      refine wpAny_bind (wpAny_pure ?_)
      try dsimp only
      refine fin (SortSt.mk' general' (kA.zip its.toArray) #[] 7 none) ⟨List.range its.length, .refl _, ?_, ?_⟩ rfl
      · have h2' : its.length < 2 := by simpa using h2
        match its.length, h2' with
        | 0, _ => exact .nil
        | 1, _ => exact List.pairwise_singleton _ _
      · show (kA.zip its.toArray).toList.map (·.2) = _
        rw [ezip, List.map_map]
        rfl
    · rw [if_neg h2, if_neg h2]
      have h2' : 2 ≤ its.length := by simpa using h2
      have hpr : ∀ v ∈ kA.toList, Srt.IsPair s'.heap v (kOf Hi v).1 (kOf Hi v).2 := fun v hv => by
        obtain ⟨j, hj, e⟩ := List.mem_iff_getElem.mp hv
        rw [Array.length_toList, ksz] at hj
        obtain ⟨t, e1, e2⟩ := keyAt j hj
        have ev : v = .ref t := by
          rw [← e, ← e1]
          simp [Array.getD, ksz, hj]
        subst ev
        rw [kOf_at e2]
        obtain ⟨_, its2, r2, o, ho, hcl, n, hd⟩ := J.I.hok _ _ e2
        obtain ⟨u1, u2, rfl, ⟨t1, rfl⟩, ⟨t2, rfl⟩⟩ := vals2 r2
        exact ⟨t, o, t1, t2, n, rfl, ho, hcl, hd⟩
      obtain ⟨κ, hkind, hT⟩ := pairs_sortableO (prog := X.prog) (w := X.w) (A := A) (s := s') (a := a) (vs := kA.toList) (k := kOf Hi) (by rw [Array.length_toList, ksz]; omega) hpr (fun o e => by
        rw [rawA] at e
        cases e
        intro z
        injection z with z3
        exact absurd z3 (by decide)) s'.heap (fun b o _ e => e)
      rw [Array.toArray_toList] at hkind
      refine wpAny_bind (hkind _ _ ?_)
      have hall : AllL (fun p : Keyed => p.1 ∈ kA.toList) (kA.zip its.toArray).toList := fun p hm => by
        rw [ksk_zip] at hm
        obtain ⟨x, y⟩ := p
        exact (List.of_mem_zip hm).1
      refine wpAny_bind (wpAny_mono (wpS_sortO (st0 := SortSt.mk' κ (kA.zip its.toArray) #[] 7 none)
        (Q := fun _ st' => Srtd (lt2 fun v u => lexB (kOf Hi v) (kOf Hi u)) (arrOf st').toList ∧ Stb (lt2 fun v u => lexB (kOf Hi v) (kOf Hi u)) (arrOf st').toList (kA.zip its.toArray).toList ∧ failedOf st' = none) (swo2 (swo_k _)) hT rfl hall rfl rfl fun st' a1 a2 a3 => ⟨a1, a2, a3⟩) ?_ fun _ _ e => e)
      rintro ⟨⟨⟩, st'⟩ s2 ⟨rfl, hp1, hp2, hf⟩
      try dsimp only
      refine fin st' ?_ hf
      obtain ⟨js, hp, e⟩ := perm_map hp2.perm (List.range its.length) ezip
      refine ⟨js, hp, ?_, by rw [e, List.map_map]; rfl⟩
      have hs : Srtd (lt2 fun v u => lexB (kOf Hi v) (kOf Hi u)) (js.map fun j => (kA.getD j .none, its.getD j .none)) := e ▸ hp1
      have hs2 := List.pairwise_map.mp hs
      refine List.Pairwise.imp_of_mem (fun {i j} hi hj hij => ?_) hs2
      have hi := List.mem_range.mp (hp.mem_iff.mp hi)
      have hj := List.mem_range.mp (hp.mem_iff.mp hj)
      obtain ⟨t1, a1, b1⟩ := keyAt i hi
      obtain ⟨t2, a2, b2⟩ := keyAt j hj
      have hij : lexB (kOf Hi (kA.getD j .none)) (kOf Hi (kA.getD i .none)) = false := hij
      rw [a1, a2, kOf_at b1, kOf_at b2] at hij
      exact lexZ_of hij
/-- sorted(l, key=f), f a lambda of one parameter that gives pairs of ints: its items by these, stably -/
theorem sorted_lam {T : List (Addr × Str)} {l f c' : Addr} {its : List Value} {vs : List V} {kz : List (Int × Int)} {q x : Str} {params : Arguments} {body : Expr} {scope : Scope} {pm ctv : Value} {k : Nat} {t : TE} {Q : VK}
    (I : Inv X pins σ H s) (tb : LamX.Tabs T H) (hl : s.heap.IsList l its.toArray) (rv : Vals vs its) (hn : its.length ≤ 900) (hkz : kz.length = its.length) (hr : Room (k + 3) X.A) (S : FnScope [x] [x] scope)
    (hf : s.heap.get? f = some (PySem.W.kla_obj "<lambda>" q params body scope [] pm c' ctv)) (hff : H f = none) (nf : f ∉ frs X.stack) (hc : H c' = some (CodeO c' q)) (hb : ∀ u, bindArgs (PySem.W.kla_fn "<lambda>" q params body scope [] pm (.ref c') ctv) ⟨[u], []⟩ = pure [(x, u)])
    (hbody : ∀ (s : Shared) (Hi : Hp), PE (cxOf CX0 X.prog X.w X.K X.mg X.base [x] q scope f (.ref c') X.A.in1.in1 X.stack s Hi E0).nox body t)
    (ht : ∀ (i : Nat) (v : V) (z : Int × Int), vs[i]? = some v → kz[i]? = some z → ∀ H2, LamX.ExtN H H2 → LamX.Tabs T H2 → t (L2.start [x] [v]) H2 fun w H' => ∃ p, w = .ref p ∧ H2 p = none ∧ H' = upd H2 p (.tup [.int z.1, .int z.2]))
    (h : ∀ (H2 : Hp) (p : Addr) (js : List Nat), LamX.ExtN H H2 → LamX.Tabs T H2 → Nw H p → js.Perm (List.range its.length) → js.Pairwise (fun i j => lexZ (kz.getD i (0, 0)) (kz.getD j (0, 0))) → H2 p = some (.lst (js.map fun j => vs.getD j .non)) → Q (.ref p) H2) :
    wpAny (model X.prog X.w) X.A (call (.builtin "sorted") [.ref l] [(Str.ofString "key", .ref f)]) (EP X pins σ Q) X.xe s := by
  have hsl : (1001 : Nat) ≤ sizeLine := by decide
  have hvl := rv.length
  refine call_function_entry_kw kind_sorted plain_sorted entry_sorted (ksk_s1 _ _) ?_
  unfold Builtin.«sorted»
  refine wpAny_bind (m := checkCount "sorted" 1 1 _) (wpAny_pure ?_)
  refine wpAny_bind (collect_list hl ?_ (by omega))
  refine wpAny_bind (wpAny_newList ?_ (by omega))
  have hsz : ((s.heap.push (seqObj "list" #[] 0)).update s.heap.objs.size (Obj.mapSeq (· ++ its.toArray))).objs.size = s.heap.objs.size + 1 := by
    rw [Heap.size_update, size_push']
  generalize ha : s.heap.objs.size + 1 = a at *
  have hoL : (((s.heap.push (seqObj "list" #[] 0)).update s.heap.objs.size (Obj.mapSeq (· ++ its.toArray))).push (seqObj "list" its.toArray 0)).get? a = some (seqObj "list" its.toArray 0) := by
    rw [← hsz]; exact Heap.get?_push_size _ rfl
  have keep : ∀ b o, s.heap.get? b = some o → (((s.heap.push (seqObj "list" #[] 0)).update s.heap.objs.size (Obj.mapSeq (· ++ its.toArray))).push (seqObj "list" its.toArray 0)).get? b = some o := fun b o z => by
    have hlt : b < s.heap.objs.size := Heap.lt_size z
    refine Heap.get?_push_of_some _ ?_
    rw [Heap.get?_update_ne _ _ _ _ (Nat.ne_of_lt hlt)]
    exact Heap.get?_push_of_some _ z
  show wpAny _ _ _ _ _ { s with heap := ((s.heap.push (seqObj "list" #[] 0)).update s.heap.objs.size (Obj.mapSeq (· ++ its.toArray))).push (seqObj "list" its.toArray 0) }
  rw [hsz]
  generalize ((s.heap.push (seqObj "list" #[] 0)).update s.heap.objs.size (Obj.mapSeq (· ++ its.toArray))).push (seqObj "list" its.toArray 0) = h2 at *
  have I2 : Inv X pins σ (upd H a (XO a (seqObj "list" its.toArray 0))) { s with heap := h2 } := I.laid (t' := s.toks) keep (by omega) (xo_ok hoL)
  have na : H a = none := I.hok.fresh (by omega)
  refine wpAny_bind (wpAny_holding (wpAny_call_entry_kw slot_list_sort ⟨_, hoL, rfl⟩ entry_list_sort ?_ (ksk_l1 _ _)))
  show wpAny (model X.prog X.w) X.A.in1.in1 (Builtin.«list.sort» ⟨[.ref a], [(Str.ofString "key", .ref f)]⟩) _ _ _
  rw [ksk_t1]
  unfold ksk_tree
  refine wpAny_bind (listItems_at hoL rfl ?_)
  refine wpAny_bind (listUpdate_at hoL rfl ?_ (by rw [List.size_toArray]; omega) (Nat.zero_le _))
  have s1 := Heap.SameBut.update h2 a (Obj.mapSeq fun _ => (#[] : Array Value))
  obtain ⟨e1, ho1⟩ : ∃ e1, (h2.update a (Obj.mapSeq fun _ => (#[] : Array Value))).get? a = some (seqObj "list" #[] e1) := ⟨_, get?_update_seq hoL fun _ => #[]⟩
  have I3 : Inv X pins σ (upd H a (XO a (seqObj "list" #[] e1))) { s with heap := h2.update a (Obj.mapSeq fun _ => (#[] : Array Value)) } := by
    have := I2.write (o := XO a (seqObj "list" #[] e1)) (t' := s.toks) (e := a) (h' := h2.update a (Obj.mapSeq fun _ => (#[] : Array Value))) (by rw [upd_same]; trivial) (.inl rfl) (fun b u hb hu => (s1.2 b hb).trans hu) ⟨_, ho1⟩ (xo_ok ho1)
    rw [upd_upd] at this
    exact this
  refine wpAny_bind (seqEpoch_at ho1 rfl ?_)
  refine wpAny_bind (wpAny_newTuple ?_ (by simp; omega))
  refine wpAny_bind (wpAny_newList ?_ (Nat.zero_le _))
  refine wpAny_holding ?_
  have sa : s.heap.objs.size ≤ a := by omega
  have fa : f ≠ a := Nat.ne_of_lt (Nat.lt_of_lt_of_le (Heap.lt_size hf) sa)
  have ca : c' ≠ a := ne_of_none hc na
  have k3 : ∀ b o, b ≠ a → s.heap.get? b = some o → (h2.update a (Obj.mapSeq fun _ => (#[] : Array Value))).get? b = some o := fun b o hb e => (s1.2 b hb).trans (keep b o e)
  have hge3 : s.heap.objs.size ≤ (h2.update a (Obj.mapSeq fun _ => (#[] : Array Value))).objs.size := Nat.le_trans sa (Nat.le_of_lt (Heap.lt_size ho1))
  have ha3 : a < (h2.update a (Obj.mapSeq fun _ => (#[] : Array Value))).objs.size := Heap.lt_size ho1
  show wpAny (model X.prog X.w) X.A.in1.in1 (ksk_rest a (.ref f) false its.toArray e1 (.ref (((h2.update a (Obj.mapSeq fun _ => (#[] : Array Value))).push (seqObj "tuple" its.toArray 0)).objs.size))) _ _
    { s with heap := ((h2.update a (Obj.mapSeq fun _ => (#[] : Array Value))).push (seqObj "tuple" its.toArray 0)).push (seqObj "list" #[] 0) }
  generalize h2.update a (Obj.mapSeq fun _ => (#[] : Array Value)) = h3 at *
  have I4 : Inv X pins σ (upd H a (XO a (seqObj "list" #[] e1))) { s with heap := h3.push (seqObj "tuple" its.toArray 0) } := I3.kept (t' := s.toks) fun b o e => Heap.get?_push_of_some _ e
  have hsz4 : (h3.push (seqObj "tuple" its.toArray 0)).objs.size = h3.objs.size + 1 := size_push' _ _
  have hk5 : ((h3.push (seqObj "tuple" its.toArray 0)).push (seqObj "list" #[] 0)).get? (h3.push (seqObj "tuple" its.toArray 0)).objs.size = some (seqObj "list" #[] 0) := Heap.get?_push_size _ rfl
  generalize hkS : (h3.push (seqObj "tuple" its.toArray 0)).objs.size = kS at *
  have hf4 : ((h3.push (seqObj "tuple" its.toArray 0)).push (seqObj "list" #[] 0)).get? f = some _ := Heap.get?_push_of_some _ (Heap.get?_push_of_some _ (k3 f _ fa hf))
  have I5 : Inv X pins σ (upd (upd H a (XO a (seqObj "list" #[] e1))) kS (XO kS (seqObj "list" #[] 0))) { s with heap := (h3.push (seqObj "tuple" its.toArray 0)).push (seqObj "list" #[] 0) } :=
    I4.laid (t' := s.toks) (fun b o e => Heap.get?_push_of_some _ e) (Nat.le_of_eq hkS) (xo_ok hk5)
  have sS : s.heap.objs.size ≤ kS := by omega
  have nS : H kS = none := I.hok.fresh sS
  have naS : a ≠ kS := Nat.ne_of_lt (Nat.lt_of_lt_of_le ha3 (by omega))
  have fS : f ≠ kS := Nat.ne_of_lt (Nat.lt_of_lt_of_le (Heap.lt_size hf) sS)
  refine rest_lam (T := T) (H1 := H) (k := k) (vs := vs) (kz := kz) (q := q) ⟨I5, extN_upd (extN_upd (LamX.ExtN.refl H) (nw_none na)) (nw_none nS), tabs_updN (tabs_updN tb na) (by rw [upd_ne (Ne.symm naS)]; exact nS), by rw [upd_ne naS, upd_same], ⟨0, upd_same⟩, ⟨hf4, by rw [upd_ne fS, upd_ne fa]; exact hff⟩, rfl, fun j hj => absurd hj (Nat.not_lt_zero j)⟩
    I.ok.frames (hr.mono (by omega)).in1.in1 S hc hb rv hn hkz (nw_none nS) (nw_none na) naS nf hbody ht fun s' H2 js e1 e2 e3 e4 e5 e6 => ⟨_, rfl, ?_⟩
  exact wpAny_pure ⟨_, rfl, .ref a, H2, e6, rfl, h H2 a js e1 e2 (nw_none na) e3 e4 e5⟩
end
end AO
set_option Elab.async false
set_option linter.all false
set_option maxRecDepth 100000
set_option maxHeartbeats 4000000
/-! AOSort2: the rule for sorted(e, key=lambda x: (len(x), x[0])). -/
namespace AO
open PySem PySem.Spec PyProof.Rows L2 LamX SrtO
/-- sorted(e, key=lambda x: ..): t the lambda's reading, pairs of ints -/
def kSortL (T : List (Addr × Str)) (K : PySem.W.Frag) (x : Str) (t : TE) (Q : VK) : V → Hp → Prop := fun y H1 => ∃ (l : Addr) (vs : List V) (kz : List (Int × Int)), y = .ref l ∧ SqL K H1 l vs ∧ vs.length ≤ 900 ∧ kz.length = vs.length ∧ LamX.Tabs T H1 ∧
  (∀ (i : Nat) (v : V) (z : Int × Int), vs[i]? = some v → kz[i]? = some z → ∀ H2, LamX.ExtN H1 H2 → t (L2.start [x] [v]) H2 fun w H' => ∃ p, w = .ref p ∧ H2 p = none ∧ H' = upd H2 p (.tup [.int z.1, .int z.2])) ∧
  ∀ (H2 : Hp) (p : Addr) (js : List Nat), LamX.ExtN H1 H2 → LamX.Tabs T H2 → Nw H1 p → js.Perm (List.range vs.length) → js.Pairwise (fun i j => lexZ (kz.getD i (0, 0)) (kz.getD j (0, 0))) → H2 p = some (.lst (js.map fun j => vs.getD j .non)) → Q (.ref p) H2
def tSortL (T : List (Addr × Str)) (K : PySem.W.Frag) (x : Str) (t te : TE) : TE := fun σ H Q => te σ H (kSortL T K x t Q)
theorem pe_sortLam {X : Cx} {T : List (Addr × Str)} {c P : Addr} {k : Nat} {e : Expr} {x : Str} {params : Arguments} {body : Expr} {scope : Scope} {lpos kpos p pos : Pos} {t te : TE} (TB : TabB X.base X.mg c P) (hcode : X.env.code = .ref c) (hmT : (P, X.env.qual ++ "<lambda>") ∈ T) (hu : ∀ p ∈ T, p.1 = P → p.2 = X.env.qual ++ "<lambda>")
    (hr : Room (k + 3) X.A) (S : FnScope [x] [x] scope) (hcl : cloFrom X.env.cells scope.names [] = []) (hdef : defaultsOf params X.env = ([], []))
    (hbind : ∀ (q : Str) (pm cv ctv u : Value), bindArgs (PySem.W.kla_fn "<lambda>" q params body scope [] pm cv ctv) ⟨[u], []⟩ = pure [(x, u)]) (hm : X.mg "sorted" = none) (he : PE X e te)
    (hbody : ∀ (q : Str) (f c' : Addr) (A : Around) (s : Shared) (Hi : Hp), PE (cxOf CX0 X.prog X.w X.K X.mg X.base [x] q scope f (.ref c') A X.stack s Hi E0).nox body t)
    (hg : Gl X "sorted" := by rfl) (hv : bootBuiltins "sorted" = some (.builtin "sorted") := by decide +kernel)
    (h0 : starEach [e] X.env = (false, eval e X.env) :: starEach [] X.env := by rfl) (h1 : backTo pos (starEach [e] X.env) = (false, eval e X.env) :: backTo pos (starEach [] X.env) := by rfl) (h2 : (backTo pos (starEach [e] X.env)).any (·.1) = false := by rfl) :
    PE X (.Call (.Name "sorted" p) [e] [⟨some "key", .Lambda params body scope lpos, kpos⟩] pos) (tSortL T X.K x t te) := by
  refine ⟨fun pins s σ H Q I hw => ?_⟩
  refine wpAny_Call_Name_kw (ld_blt I hg hm hv ?_)
  refine PyProof.Rows.callWith_kw (L2.thn ((pa_cons he pa_nil h0).run pos pins s σ H (fun vs H1 => match vs with
    | [y] => kSortL T X.K x t Q y H1
    | _ => False) I hw) fun us s1 ⟨vs0, H1, I1, r1, q1⟩ => ?_) h1 h2
  cases r1 with
  | nil => exact (show False from q1).elim
  | cons r1 rn =>
    cases rn with
    | cons _ _ => exact (show False from q1).elim
    | nil =>
      obtain ⟨l, vs, kz, rfl, hs, hl, hk, tb, hbt, hfin⟩ := (show kSortL T X.K x t Q _ H1 from q1)
      obtain rfl := r1
      show wpAny _ _ (evalAll ((do let v ← eval (.Lambda params body scope lpos) X.env; standAt pos; pure v) :: (backToKw pos (keywordEach [] X.env)).map (·.2))) _ _ s1
      refine wpAny_evalAll_cons (wpAny_bind (lam_make2 I1 TB hcode hmT hu tb hdef (fun y hy e => ?_) fun f c' pm ctv H2 s2 I2 eN T2 hf hfn hfr hco => wpAny_bind (wpAny_standAt (wpAny_pure ?_))))
      · rcases S.nofree y hy e
      · refine wpAny_evalAll_nil ?_
        rw [hcl] at hf
        have hs2 : SqL X.K H2 l vs := by
          rcases hs with (h | ⟨o, h⟩) | h
          · exact .inl (.inl (eN _ _ h fun _ z => by cases z))
          · exact .inl (.inr ⟨o, eN _ _ h fun _ z => by cases z⟩)
          · exact .inr h
        obtain ⟨its, rv, pl, hz⟩ := I2.list hs2
        have hvl := rv.length
        refine sorted_lam (k := k) (x := x) I2 T2 pl.isList rv (by omega) (by omega) hr S hf hfn hfr hco (fun u => hbind _ _ _ _ u) (hbody _ _ _ _) (fun i v z hv hz H3 e3 _ => hbt i v z hv hz H3 (LamX.ExtN.trans eN e3)) fun H3 p js e3 t3 n3 p3 w3 h3 => ?_
        rw [← hvl] at p3
        exact hfin H3 p js (LamX.ExtN.trans eN e3) t3 (n3.back eN) p3 w3 h3
theorem pick_rel {G : Hp} {vs : List V} {xs : List (List Nat)} (ha : All2 ((rL rN).r G) vs xs) : ∀ js : List Nat, (∀ j ∈ js, j < xs.length) → All2 ((rL rN).r G) (js.map fun j => vs.getD j .non) (js.map fun j => xs.getD j [])
  | [], _ => .nil
  | j :: js, h => by
    have hj := h j (List.mem_cons_self ..)
    refine .cons ?_ (pick_rel ha js fun i hi => h i (List.mem_cons_of_mem _ hi))
    obtain ⟨v, hv, r⟩ := ha.get (i := j) (b := xs[j]) (List.getElem?_eq_getElem hj)
    simpa [List.getD_eq_getElem?_getD, hv, hj] using r
/-- by (len(x), x[0]) of lists of numbers -/
abbrev tLenFirst (K : PySem.W.Frag) : TE := tTup (tCons (tCB (rLn K) (tCons (tVar 0) tNil)) (tCons (tOp (rIxL K) (tVar 0) (tC (.int 0))) tNil))
def keyR (r : List Nat) : Int × Int := ((r.length : Int), (r.getD 0 0 : Nat))
theorem eo_sortLam {T : List (Addr × Str)} {K : PySem.W.Frag} {x : Str} {te : TE} {es : List Cell} {xs ys : List (List Nat)} (h : EvE T (rL (rL rN)) te es xs) (hne : ∀ r ∈ xs, r ≠ []) (hl : xs.length ≤ 900)
    (hy : ∀ js : List Nat, js.Perm (List.range xs.length) → js.Pairwise (fun i j => lexZ (keyR (xs.getD i [])) (keyR (xs.getD j []))) → js.map (fun j => xs.getD j []) = ys) : EvO T (oL (rL rN)) (tSortL T K x (tLenFirst K) te) es ys := fun G0 H0 G H σ F m Q q => h G0 H0 G H σ F m _ fun v G1 H1 s1 r => by
  obtain ⟨l, vs, rfl, hs, hvl, ha⟩ := r
  have hlen := ha.length
  refine ⟨l, vs, xs.map keyR, rfl, Evl.sq_of (s1.m.ex _ _ hs), by omega, by rw [List.length_map]; omega, s1.m.tb, fun i v z hv hz H2 e2 => ?_, fun H2 p js e2 t2 n2 hp hw h2 => ?_⟩
  · obtain ⟨ns, hns, r⟩ := ha.getl hv
    obtain ⟨a, us, rfl, hu, hul, hua⟩ := r
    have hmem : ns ∈ xs := List.mem_of_getElem? hns
    have hu2 : H2 a = some (.lst us) := e2 a _ (s1.m.ex _ _ hu) fun _ z => by cases z
    obtain ⟨n0, rest, rfl⟩ : ∃ n0 rest, ns = n0 :: rest := by
      cases ns with
      | nil => exact absurd rfl (hne _ hmem)
      | cons a b => exact ⟨a, b, rfl⟩
    have hul2 := hua.length
    cases hua with
    | cons h0 t0 =>
      rename_i u0 us
      have ez : z = keyR (n0 :: rest) := by
        rw [List.getElem?_map, hns] at hz
        exact (Option.some.inj hz).symm
      subst ez
      refine ⟨.ref a, rfl, a, _, rfl, .inl (Evl.sq_of hu2), .ref a, rfl, a, _, 0, u0, rfl, rfl, Evl.sq_of hu2, atI_nat (j := 0) rfl, by show 2 ≤ sizeLine; decide, fun p hp => ⟨p, rfl, hp, ?_⟩⟩
      obtain rfl : u0 = V.int (n0 : Int) := h0
      rw [hul2]
      rfl
  · have hperm : js.Perm (List.range xs.length) := by rw [← hlen]; exact hp
    have hjl : ∀ j ∈ js, j < xs.length := fun j hj => List.mem_range.mp (hperm.mem_iff.mp hj)
    have e := hy js hperm (List.Pairwise.imp_of_mem (fun {i j} hi hj hij => by
      have hi := hjl i hi
      have hj := hjl j hj
      simpa [List.getD_eq_getElem?_getD, hi, hj] using hij) hw)
    have st : Step T G1 H1 G1 H2 := ⟨⟨fun b o hb => e2 b o (s1.m.ex b o hb) fun ps z => s1.m.nt b ps (z ▸ hb), s1.m.nt, t2⟩, fun _ _ h => h, e2, fun _ _ _ _ n => n⟩
    have g1 : G1 p = none := by
      cases z : G1 p with
      | none => rfl
      | some o =>
        obtain ⟨ps, hps⟩ := n2 o (s1.m.ex p o z)
        exact absurd (hps ▸ z) (s1.m.nt p ps)
    refine q (.ref p) G1 H2 (one p (.lst (js.map fun j => vs.getD j .non))) (s1.trans st) (fun b o hb => ?_) ⟨p, _, rfl, rfl, by rw [List.length_map, hperm.length_eq, List.length_range]; omega, ?_⟩
    · obtain ⟨rfl, rfl⟩ := one_some hb
      exact ⟨h2, g1, n2.back s1.h, pl_lst⟩
    · rw [← e]
      exact pick_rel ha js hjl
end AO
set_option Elab.async false
set_option linter.all false
/-! AOMath2: the rings by their lengths. -/
namespace AO
section
variable {σ : List Nat}
theorem orb_head (x : Nat) : (orb σ x).getD 0 0 = x := by
  have h := orb_get (σ := σ) (x := x) (k := 0) (per_pos x)
  rw [List.getD_eq_getElem?_getD, h]
  rfl
theorem orb_ne (x : Nat) : orb σ x ≠ [] := fun e => by
  have h := orb_length (σ := σ) x
  rw [e] at h
  have := per_pos (σ := σ) x
  simp at h
  omega
theorem rings_heads : (rings σ).Pairwise fun r r' => r.getD 0 0 < r'.getD 0 0 := by
  unfold rings
  rw [List.pairwise_map]
  simp only [orb_head]
  exact List.Pairwise.filter _ List.pairwise_lt_range
theorem rings_nodup : (rings σ).Nodup := by
  refine List.Pairwise.imp (fun {a b} h => ?_) rings_heads
  intro e
  rw [e] at h
  exact absurd h (Nat.lt_irrefl _)
theorem rings_ne {r : List Nat} (h : r ∈ rings σ) : r ≠ [] := by
  unfold rings at h
  obtain ⟨s, _, rfl⟩ := List.mem_map.mp h
  exact orb_ne s
theorem rings_len : (rings σ).length ≤ σ.length := by
  unfold rings
  rw [List.length_map]
  have := List.length_filter_le (isMin σ) (List.range σ.length)
  rwa [List.length_range] at this
theorem ring_len (h : IsP σ) {r : List Nat} (hr : r ∈ rings σ) : 0 < r.length ∧ r.length ≤ σ.length := by
  obtain ⟨s, hs, _, rfl⟩ := (mem_rings h).mp hr
  rw [orb_length]
  exact ⟨per_pos s, per_le h hs⟩
end
/-- the lengths that rings have, rising -/
def lens (σ : List Nat) : List Nat := (List.range (σ.length + 1)).filter fun l => (rings σ).any fun r => r.length == l
def ofLen (σ : List Nat) (l : Nat) : List (List Nat) := (rings σ).filter fun r => r.length == l
def byLen (σ : List Nat) : List (Int × List (List Nat)) := (lens σ).map fun l : Nat => ((l : Int), ofLen σ l)
def sortedRings (σ : List Nat) : List (List Nat) := (lens σ).flatMap (ofLen σ)
section
variable {σ : List Nat}
theorem mem_lens (h : IsP σ) {l : Nat} : l ∈ lens σ ↔ ∃ r ∈ rings σ, r.length = l := by
  unfold lens
  rw [List.mem_filter, List.any_eq_true]
  constructor
  · rintro ⟨_, r, hr, e⟩
    exact ⟨r, hr, by simpa using e⟩
  · rintro ⟨r, hr, e⟩
    exact ⟨List.mem_range.mpr (by have := ring_len h hr; omega), r, hr, by simpa using e⟩
theorem lens_lt : (lens σ).Pairwise (· < ·) := List.Pairwise.filter _ List.pairwise_lt_range
theorem mem_ofLen {l : Nat} {r : List Nat} : r ∈ ofLen σ l ↔ r ∈ rings σ ∧ r.length = l := by
  unfold ofLen
  rw [List.mem_filter]
  simp
theorem ofLen_ne (h : IsP σ) {l : Nat} (hl : l ∈ lens σ) : ofLen σ l ≠ [] := by
  obtain ⟨r, hr, e⟩ := (mem_lens h).mp hl
  exact List.ne_nil_of_mem (mem_ofLen.mpr ⟨hr, e⟩)
theorem ofLen_heads (l : Nat) : (ofLen σ l).Pairwise fun r r' => r.getD 0 0 < r'.getD 0 0 := List.Pairwise.filter _ rings_heads
theorem mem_sorted (h : IsP σ) {r : List Nat} : r ∈ sortedRings σ ↔ r ∈ rings σ := by
  unfold sortedRings
  rw [List.mem_flatMap]
  constructor
  · rintro ⟨l, _, hr⟩
    exact (mem_ofLen.mp hr).1
  · intro hr
    exact ⟨r.length, (mem_lens h).mpr ⟨r, hr, rfl⟩, mem_ofLen.mpr ⟨hr, rfl⟩⟩
def keyLe (r r' : List Nat) : Prop := r.length < r'.length ∨ (r.length = r'.length ∧ r.getD 0 0 ≤ r'.getD 0 0)
theorem sorted_pw : (sortedRings σ).Pairwise fun r r' => r.length < r'.length ∨ (r.length = r'.length ∧ r.getD 0 0 < r'.getD 0 0) := by
  unfold sortedRings
  rw [List.pairwise_flatMap]
  refine ⟨fun l _ => ?_, ?_⟩
  · refine List.Pairwise.imp_of_mem (fun {a b} ha hb hab => ?_) (ofLen_heads l)
    exact .inr ⟨by rw [(mem_ofLen.mp ha).2, (mem_ofLen.mp hb).2], hab⟩
  · refine List.Pairwise.imp (fun {l l'} hl r hr r' hr' => ?_) lens_lt
    exact .inl (by rw [(mem_ofLen.mp hr).2, (mem_ofLen.mp hr').2]; exact hl)
theorem sorted_nodup : (sortedRings σ).Nodup := by
  refine List.Pairwise.imp (fun {a b} h => ?_) sorted_pw
  intro e
  subst e
  omega
theorem sorted_perm (h : IsP σ) : (sortedRings σ).Perm (rings σ) := (List.perm_ext_iff_of_nodup sorted_nodup rings_nodup).mpr fun _ => mem_sorted h
theorem sorted_uniq (h : IsP σ) {l : List (List Nat)} (hp : l.Perm (rings σ)) (hl : l.Pairwise keyLe) : l = sortedRings σ := by
  refine List.Perm.eq_of_pairwise (le := keyLe) (fun a b ha hb h1 h2 => ?_) hl (List.Pairwise.imp (fun {a b} h => ?_) sorted_pw) (hp.trans (sorted_perm h).symm)
  · have ha' := (mem_rings h).mp (hp.mem_iff.mp ha)
    have hb' := (mem_rings h).mp ((mem_sorted h).mp hb)
    obtain ⟨s, _, _, rfl⟩ := ha'
    obtain ⟨t, _, _, rfl⟩ := hb'
    unfold keyLe at h1 h2
    rw [orb_head, orb_head] at h1 h2
    have : s = t := by omega
    rw [this]
  · unfold keyLe
    omega
/-- a ring put to those of its length -/
def addL (xs : List (Int × List (List Nat))) (r : List Nat) : List (Int × List (List Nat)) :=
  if (xs.any fun p => decide (p.1 = (r.length : Int))) = true then xs.map (fun p => if p.1 = (r.length : Int) then (p.1, p.2 ++ [r]) else p) else xs ++ [((r.length : Int), [r])]
theorem addL_old {xs : List (Int × List (List Nat))} {l : Nat} {rs : List (List Nat)} {r : List Nat} (hx : ∀ p ∈ xs, p.1 ≠ (l : Int)) (e : r.length = l) : addL (xs ++ [((l : Int), rs)]) r = xs ++ [((l : Int), rs ++ [r])] := by
  unfold addL
  rw [e, if_pos (by simp), List.map_append]
  congr 1
  · conv => rhs; rw [← List.map_id xs]
    exact List.map_congr_left fun p hp => by simp [hx p hp]
  · simp
theorem addL_new {xs : List (Int × List (List Nat))} {r : List Nat} (hx : ∀ p ∈ xs, p.1 ≠ (r.length : Int)) : addL xs r = xs ++ [((r.length : Int), [r])] := by
  unfold addL
  rw [if_neg]
  intro hh
  obtain ⟨p, hp, e⟩ := List.any_eq_true.mp hh
  exact hx p hp (by simpa using e)
theorem addL_run {l : Nat} : ∀ {rs : List (List Nat)} {xs : List (Int × List (List Nat))} {pre : List (List Nat)}, (∀ p ∈ xs, p.1 ≠ (l : Int)) → (∀ r ∈ rs, r.length = l) → rs.foldl addL (xs ++ [((l : Int), pre)]) = xs ++ [((l : Int), pre ++ rs)]
  | [], xs, pre, _, _ => by simp
  | r :: rs, xs, pre, hx, hr => by
    rw [List.foldl_cons, addL_old hx (hr r (List.mem_cons_self ..)), addL_run hx fun r' h => hr r' (List.mem_cons_of_mem _ h)]
    simp
theorem addL_all : ∀ {ls : List Nat} {xs : List (Int × List (List Nat))} {g : Nat → List (List Nat)}, (∀ l ∈ ls, g l ≠ [] ∧ ∀ r ∈ g l, r.length = l) → ls.Pairwise (· < ·) → (∀ l ∈ ls, ∀ p ∈ xs, p.1 < (l : Int)) → (ls.flatMap g).foldl addL xs = xs ++ ls.map fun l : Nat => ((l : Int), g l)
  | [], xs, g, _, _, _ => by simp
  | l :: ls, xs, g, hg, hp, hx => by
    rw [List.flatMap_cons, List.foldl_append]
    obtain ⟨h1, h2⟩ := hg l (List.mem_cons_self ..)
    obtain ⟨hp1, hp2⟩ := List.pairwise_cons.mp hp
    have hne : ∀ p ∈ xs, p.1 ≠ (l : Int) := fun p hpx => by
      have := hx l (List.mem_cons_self ..) p hpx
      omega
    have e : (g l).foldl addL xs = xs ++ [((l : Int), g l)] := by
      cases hgl : g l with
      | nil => exact absurd hgl h1
      | cons r rs =>
        have hr : r.length = l := h2 r (by rw [hgl]; exact List.mem_cons_self ..)
        rw [List.foldl_cons, addL_new (by rw [hr]; exact hne), hr, addL_run hne fun r' h => h2 r' (by rw [hgl]; exact List.mem_cons_of_mem _ h)]
        simp
    rw [e, addL_all (fun l' hl' => hg l' (List.mem_cons_of_mem _ hl')) hp2 fun l' hl' p hpx => ?_]
    · simp
    · rcases List.mem_append.mp hpx with z | z
      · exact hx l' (List.mem_cons_of_mem _ hl') p z
      · rw [List.mem_singleton.mp z]
        have := hp1 l' hl'
        show (l : Int) < (l' : Int)
        omega
theorem byLen_fold (h : IsP σ) : (sortedRings σ).foldl addL [] = byLen σ := by
  unfold sortedRings byLen
  rw [addL_all (fun l hl => ⟨ofLen_ne h hl, fun r hr => (mem_ofLen.mp hr).2⟩) lens_lt (fun _ _ p hp => by cases hp)]
  simp
theorem addL_len {xs : List (Int × List (List Nat))} {r : List Nat} : (addL xs r).length ≤ xs.length + 1 := by
  unfold addL
  split <;> simp
end
end AO
set_option Elab.async false
set_option linter.all false
set_option maxRecDepth 100000
set_option maxHeartbeats 2000000
/-! AOByLen: an own dict of own lists, and how it grows. -/
namespace AO
universe u v
open PySem L2
section
variable {T : List (Addr × Str)} {G0 H0 G H : Hp} {σ : St} {F : Nat → Hp} {es es2 : List Cell} {α β : Type} {R : Rep α} {O' : Own β} {y : β}
/-- what slot i owns is changed, and may grow by new objects -/
theorem At.updG {i : Nat} {v : V} {F' : Hp} {H' : Hp} (m : At T G0 H0 G H σ F es) (hv : σ[i]? = some (some v)) (ha : ∀ c, F i c = none → F' c = none → H' c = H c) (hb : ∀ c o, F' c = some o → H' c = some o ∧ Pl o) (hc : ∀ c, F' c ≠ none → F i c ≠ none ∨ H c = none)
    (hd : ∀ c, F i c ≠ none → F' c ≠ none) (hr : O'.r G F' v y) : At T G0 H0 G H' σ (setF F i F') (es.set i (.own O' y)) := by
  have out : ∀ c o, H c = some o → F i c = none → H' c = some o := fun c o hco hF => by
    rw [ha c hF ?_]
    · exact hco
    · cases z : F' c with
      | none => rfl
      | some u =>
        rcases hc c (by rw [z]; simp) with z2 | z2
        · exact absurd hF z2
        · rw [hco] at z2
          cases z2
  have gF : ∀ c o, G c = some o → F i c = none := fun c o hco => by
    cases z : F i c with
    | none => rfl
    | some u =>
      have := (m.en.sub i c u z).2.1
      rw [hco] at this
      cases this
  have n0 : ∀ c o, H0 c = some o → (∀ ps, o ≠ .tbl ps) → F i c = none := fun c o hco hn => by
    cases z : F i c with
    | none => rfl
    | some u =>
      obtain ⟨ps, hps⟩ := (m.en.sub i c u z).2.2.1 o hco
      exact absurd hps (hn ps)
  refine ⟨⟨⟨fun b u e => out b u (m.m.ex b u e) (gF b u e), m.m.nt, fun q hq => ?_⟩, m.st.g, fun b u e hn => out b u (m.st.h b u e hn) (n0 b u e hn), m.st.n⟩, by rw [List.length_set]; exact m.ln, fun j c hcj => ?_, fun j b u hbj => ?_, fun j k b hjk hbj => ?_⟩
  · have pF : ∀ c o, H c = some o → ¬ Pl o → F i c = none := fun c o hco hn => by
      cases z : F i c with
      | none => rfl
      | some u =>
        obtain ⟨h1, _, _, h4⟩ := m.en.sub i c u z
        rw [hco] at h1
        cases h1
        exact absurd h4 hn
    obtain ⟨ps, h1, h2, h3⟩ := m.m.tb q hq
    refine ⟨ps, out _ _ h1 (pF _ _ h1 fun p => p.1 ps rfl), h2, fun pos cv hcv => ?_⟩
    obtain ⟨c, e1, e2⟩ := h3 pos cv hcv
    exact ⟨c, e1, out _ _ e2 (pF _ _ e2 fun p => p.2 _ rfl)⟩
  · rcases set_get hcj with ⟨rfl, rfl, _⟩ | ⟨hj, hcj⟩
    · rw [setF_same]
      exact ⟨v, hv, hr⟩
    · rw [setF_ne hj]
      exact m.en.at_ j c hcj
  · by_cases e : j = i
    · subst e
      rw [setF_same] at hbj
      obtain ⟨h1, h4⟩ := hb b u hbj
      rcases hc b (by rw [hbj]; simp) with z | z
      · cases z2 : F j b with
        | none => exact absurd z2 z
        | some w =>
          obtain ⟨_, g2, g3, _⟩ := m.en.sub j b w z2
          exact ⟨h1, g2, g3, h4⟩
      · exact ⟨h1, Evl.fresh_back m.m.ex z, (nw_none z).back m.st.h, h4⟩
    · rw [setF_ne e] at hbj
      obtain ⟨h1, h2, h3, h4⟩ := m.en.sub j b u hbj
      exact ⟨out b u h1 (m.en.dis j i b e (by rw [hbj]; simp)), h2, h3, h4⟩
  · by_cases e : j = i
    · subst e
      rw [setF_same] at hbj
      rw [setF_ne (Ne.symm hjk)]
      rcases hc b hbj with z | z
      · exact m.en.dis j k b hjk z
      · cases z2 : F k b with
        | none => rfl
        | some w =>
          have := (m.en.sub k b w z2).1
          rw [z] at this
          cases this
    · rw [setF_ne e] at hbj
      by_cases e2 : k = i
      · subst e2
        rw [setF_same]
        cases z : F' b with
        | none => rfl
        | some w =>
          rcases hc b (by rw [z]; simp) with z2 | z2
          · exact absurd (m.en.dis j k b hjk hbj) z2
          · cases z3 : F j b with
            | none => exact absurd z3 hbj
            | some w2 =>
              have := (m.en.sub j b w2 z3).1
              rw [z2] at this
              cases this
      · rw [setF_ne e2]
        exact m.en.dis j k b hjk hbj
end
/-- an entry of a dict of own lists: the list stands at q in F -/
def DE {α : Type} (R : Rep α) (G F : Hp) (p : Key × V) (x : Int × List α) : Prop := p.1 = .inl x.1 ∧ ∃ q vs, p.2 = .ref q ∧ F q = some (.lst vs) ∧ vs.length ≤ 100000 ∧ All2 (R.r G) vs x.2
def refOf : V → Addr
  | .ref q => q
  | _ => 0
def oDL {α : Type} (R : Rep α) : Own (List (Int × List α)) := ⟨fun G F v xs => ∃ (p : Addr) (kvs : List (Key × V)), v = .ref p ∧ F p = some (.dK kvs) ∧ kvs.length ≤ 100000 ∧ (kvs.map fun (kv : Key × V) => refOf kv.2).Nodup ∧ All2 (DE R G F) kvs xs,
  fun e ⟨p, kvs, h1, h2, h3, h4, h5⟩ => ⟨p, kvs, h1, h2, h3, h4, h5.imp fun _ _ ⟨a, q, vs, b, c, d, f⟩ => ⟨a, q, vs, b, c, d, f.imp fun _ _ => R.mono e⟩⟩⟩
theorem rel_any {α : Type} {kvs : List (Key × V)} {xs : List (Int × α)} {r : Key × V → Int × α → Prop} (hr : ∀ a b, r a b → a.1 = .inl b.1) (h : All2 r kvs xs) (k : Int) : (valV kvs (.inl k)).isSome = (xs.any fun p => decide (p.1 = k)) := by
  induction h with
  | nil => rfl
  | cons h t ih =>
    rename_i p q l m
    have e0 := hr _ _ h
    by_cases e : q.1 = k
    · have e2 : p.1 = .inl k := by rw [e0, e]
      simp [valV, e2, e]
    · have e2 : p.1 ≠ .inl k := by
        rw [e0]
        intro z
        exact e (Sum.inl.inj z)
      have h2 : valV (p :: l) (.inl k) = valV l (.inl k) := by simp [valV, e2]
      rw [h2, ih]
      simp [e]
theorem All2.of_get {α : Type u} {β : Type v} {r : α → β → Prop} : ∀ {l : List α} {m : List β}, l.length = m.length → (∀ (i : Nat) (a : α) (b : β), l[i]? = some a → m[i]? = some b → r a b) → All2 r l m
  | [], [], _, _ => .nil
  | [], _ :: _, h, _ => by simp at h
  | _ :: _, [], h, _ => by simp at h
  | a :: l, b :: m, h, hr => .cons (hr 0 a b rfl rfl) (All2.of_get (by simpa using h) fun i x y hx hy => hr (i + 1) x y (by simpa using hx) (by simpa using hy))
theorem val_at {k : Int} : ∀ {kvs : List (Key × V)} {j : Nat} {v : V}, kvs[j]? = some (.inl k, v) → (∀ (i : Nat) (p : Key × V), i < j → kvs[i]? = some p → p.1 ≠ .inl k) → valV kvs (.inl k) = some v
  | [], _, _, h, _ => by simp at h
  | p :: l, 0, v, h, _ => by
    have e : p = (.inl k, v) := by simpa using h
    subst e
    simp [valV]
  | p :: l, j + 1, v, h, hn => by
    have e2 : p.1 ≠ .inl k := hn 0 p (Nat.succ_pos j) rfl
    rw [← val_at (kvs := l) (j := j) (by simpa using h) fun i q hi hq => hn (i + 1) q (by omega) (by simpa using hq)]
    simp [valV, e2]
theorem oDL_grow {α : Type} {R : Rep α} {G F F' : Hp} {v : V} {xs : List (Int × List α)} (h : (oDL R).r G F v xs) (e : ∀ b o, F b = some o → F' b = some o) : (oDL R).r G F' v xs := by
  obtain ⟨p, kvs, h1, h2, h3, h4, h5⟩ := h
  exact ⟨p, kvs, h1, e _ _ h2, h3, h4, h5.imp fun _ _ ⟨a, q, vs, b, c, d, f⟩ => ⟨a, q, vs, b, e _ _ c, d, f⟩⟩
theorem set_same {α : Type u} {l : List α} {i : Nat} {a : α} (h : l[i]? = some a) : l.set i a = l := by
  obtain ⟨h1, h2⟩ := List.getElem?_eq_some_iff.mp h
  rw [← h2]
  exact List.set_getElem_self h1
section
variable {T : List (Addr × Str)} {G0 H0 G H : Hp} {σ : St} {F : Nat → Hp} {es es2 : List Cell} {α β : Type} {R : Rep α} {O : Own α} {x : α} {O' : Own β} {y : β}
/-- slot i owns one thing more, that is new -/
theorem at_more {i : Nat} {q : Addr} {o : HO} {v : V} (m : At T G0 H0 G H σ F es) (hv : σ[i]? = some (some v)) (hq : H q = none) (ho : Pl o) (hr : O'.r G (upd (F i) q o) v y) : At T G0 H0 G (upd H q o) σ (setF F i (upd (F i) q o)) (es.set i (.own O' y)) := by
  have hqF : F i q = none := by
    cases z : F i q with
    | none => rfl
    | some u =>
      have := (m.en.sub i q u z).1
      rw [hq] at this
      cases this
  refine m.updG hv (fun b h1 h2 => ?_) (fun b u h => ?_) (fun b h => ?_) (fun b h => ?_) hr
  · have n2 : b ≠ q := fun e => by rw [e, upd_same] at h2; cases h2
    rw [upd_ne n2]
  · by_cases e2 : b = q
    · rw [e2, upd_same] at h ⊢
      cases h
      exact ⟨rfl, ho⟩
    · rw [upd_ne e2] at h ⊢
      exact ⟨(m.en.sub i b u h).1, (m.en.sub i b u h).2.2.2⟩
  · by_cases e2 : b = q
    · right; rw [e2]; exact hq
    · rw [upd_ne e2] at h
      exact .inl h
  · by_cases e2 : b = q
    · rw [e2, upd_same]; simp
    · rw [upd_ne e2]; exact h
/-- one of the things that slot i owns is another now -/
theorem at_other {i : Nat} {q : Addr} {u o : HO} {v : V} (m : At T G0 H0 G H σ F es) (hv : σ[i]? = some (some v)) (hq : F i q = some u) (ho : Pl o) (hr : O'.r G (upd (F i) q o) v y) : At T G0 H0 G (upd H q o) σ (setF F i (upd (F i) q o)) (es.set i (.own O' y)) := by
  refine m.updG hv (fun b h1 h2 => ?_) (fun b u h => ?_) (fun b h => ?_) (fun b h => ?_) hr
  · have n2 : b ≠ q := fun e => by rw [e, upd_same] at h2; cases h2
    rw [upd_ne n2]
  · by_cases e2 : b = q
    · rw [e2, upd_same] at h ⊢
      cases h
      exact ⟨rfl, ho⟩
    · rw [upd_ne e2] at h ⊢
      exact ⟨(m.en.sub i b u h).1, (m.en.sub i b u h).2.2.2⟩
  · by_cases e2 : b = q
    · left; rw [e2, hq]; simp
    · rw [upd_ne e2] at h
      exact .inl h
  · by_cases e2 : b = q
    · rw [e2, upd_same]; simp
    · rw [upd_ne e2]; exact h
end
section
variable {T : List (Addr × Str)} {G0 H0 : Hp} {es : List Cell} {α : Type} {R : Rep α} {x : α} {te ta : TE} {D : Ends} {K : PySem.W.Frag}
theorem At.dl {σ : St} {F : Nat → Hp} {G H : Hp} {xs : List (Int × List α)} {i : Nat} (m : At T G0 H0 G H σ F es) (h : es[i]? = some (.own (oDL R) xs)) : ∃ p kvs, σ[i]? = some (some (.ref p)) ∧ F i p = some (.dK kvs) ∧ H p = some (.dK kvs) ∧ kvs.length ≤ 100000 ∧ (kvs.map fun (kv : Key × V) => refOf kv.2).Nodup ∧ All2 (DE R G (F i)) kvs xs := by
  obtain ⟨v, hv, p, kvs, rfl, hF, hl, hnd, ha⟩ := m.own h
  exact ⟨p, kvs, hv, hF, (m.en.sub i p _ hF).1, hl, hnd, ha⟩
theorem eo_dictL : EvO T (oDL R) tDNewK es [] := fun G0 H0 G H σ F m Q q p hp => newO m.m q hp pl_dK ⟨p, [], rfl, one_same, Nat.zero_le _, List.nodup_nil, .nil⟩
theorem de_key {G F : Hp} : ∀ (a : Key × V) (b : Int × List α), DE R G F a b → a.1 = .inl b.1 := fun _ _ h => h.1
theorem ev_notInL {i : Nat} {xs : List (Int × List α)} {k : Int} (h : es[i]? = some (.own (oDL R) xs)) (hk : EvE T rI ta es k) : EvE T rB (tDNotIn ta (tVar i)) es (!(xs.any fun p => decide (p.1 = k))) := fun G0 H0 G H σ F m Q q => hk G0 H0 G H σ F m _ fun v G1 H1 s1 r1 => by
  obtain ⟨p, vs, hv, hF, hp, hl, hnd, ha⟩ := m.dl h
  refine ⟨_, hv, p, valV vs (.inl k), rfl, ?_, ?_⟩
  · rw [show v = kV (.inl k) from r1]
    exact DGet.k (s1.h p _ hp fun _ z => by cases z)
  · rw [rel_any de_key ha]
    exact q _ G1 H1 s1 rfl
/-- d[k] = [], k not in d -/
theorem dl_new {i : Nat} {xs : List (Int × List α)} {k : Int} (hx : es[i]? = some (.own (oDL R) xs)) (hn : ∀ p ∈ xs, p.1 ≠ k) (hz : xs.length < 100000) (hk : EvE T rI ta es k) (c : To T G0 H0 D.nx (es.set i (.own (oDL R) (xs ++ [(k, [])])))) : Go T G0 H0 (sDPut (tVar i) ta (tLst tNil)) D es := fun G H σ F m => by
  refine ⟨by show 0 ≤ _; exact Nat.zero_le _, fun q hq => ?_⟩
  obtain ⟨v, hv, hr⟩ := m.own hx
  have hqF : F i q = none := by
    cases z : F i q with
    | none => rfl
    | some u =>
      have := (m.en.sub i q u z).1
      rw [hq] at this
      cases this
  have m1 := at_more (o := .lst []) m hv hq pl_lst (O' := oDL R) (y := xs) (oDL_grow hr fun b o hb => by
    rw [upd_ne (fun e => by rw [e, hqF] at hb; cases hb)]
    exact hb)
  rw [set_same hx] at m1
  refine ⟨_, hv, hk G0 H0 G _ σ _ m1 _ fun w G2 H2 s2 r2 => ?_⟩
  have m2 := m1.step s2
  obtain ⟨p, kvs, hv2, hF, hp, hl, hnd, ha⟩ := m2.dl hx
  rw [hv] at hv2
  cases hv2
  obtain ⟨p0, kvs0, e0, hF0, _, _, ha0⟩ := hr
  cases e0
  rw [setF_same] at hF ha
  have hqp : p ≠ q := fun e => by
    rw [← e, hF0] at hqF
    cases hqF
  have e1 : kvs0 = kvs := by
    rw [upd_ne hqp, hF0] at hF
    cases hF
    rfl
  subst e1
  have hln := ha.length
  have hput : putK kvs0 (.inl k) (V.ref q) = kvs0 ++ [(.inl k, .ref q)] := by
    unfold putK
    rw [if_neg]
    intro hh
    obtain ⟨kv, hkv, e⟩ := List.any_eq_true.mp hh
    have e : kv.1 = .inl k := by simpa using e
    obtain ⟨j, hj, e2⟩ := List.mem_iff_getElem.mp hkv
    obtain ⟨y, hy, hd⟩ := ha.getl (List.getElem?_eq_getElem hj)
    rw [e2] at hd
    have : y.1 = k := by
      have := hd.1
      rw [e] at this
      exact (Sum.inl.inj this).symm
    exact hn y (List.mem_of_getElem? hy) this
  refine ⟨p, upd H2 p (.dK (kvs0 ++ [(.inl k, .ref q)])), rfl, ?_, ?_⟩
  · rw [show w = kV (.inl k) from r2, ← hput]
    exact DPut.k hp (Evl.sz_lt (by omega))
  · refine c G2 _ _ _ (at_other (i := i) (q := p) (u := .dK kvs0) m2 hv (by rw [setF_same]; exact hF) pl_dK ⟨p, _, rfl, upd_same, by simp; omega, ?_, ?_⟩)
    · rw [List.map_append, List.nodup_append]
      refine ⟨hnd, by simp, fun a ha' b hb => ?_⟩
      have hb : b = q := by simpa [refOf] using hb
      subst hb
      intro e
      obtain ⟨kv, hkv, e2⟩ := List.mem_map.mp ha'
      obtain ⟨j, hj, e3⟩ := List.mem_iff_getElem.mp hkv
      obtain ⟨y, hy, _, q', vs, h2, h3, _⟩ := ha0.getl (List.getElem?_eq_getElem hj)
      rw [e3] at h2
      rw [h2] at e2
      have e2 : q' = a := e2
      rw [e2, e, hqF] at h3
      cases h3
    · rw [setF_same]
      have hup : ∀ b vs, upd (F i) q (.lst []) b = some (.lst vs) → upd (upd (F i) q (.lst [])) p (.dK (kvs0 ++ [(.inl k, .ref q)])) b = some (.lst vs) := fun b vs hb => by
        rw [upd_ne (fun e => by rw [e, hF] at hb; cases hb)]
        exact hb
      exact (ha.imp fun _ _ ⟨a, q', vs, b, c, d, f⟩ => ⟨a, q', vs, b, hup _ _ c, d, f⟩).append (.cons ⟨rfl, q, [], rfl, hup _ _ upd_same, Nat.zero_le _, .nil⟩ .nil)
/-- d[k].append(x) -/
theorem dl_app {i j : Nat} {xs : List (Int × List α)} {k : Int} {ys : List α} (hx : es[i]? = some (.own (oDL R) xs)) (hj : xs[j]? = some (k, ys)) (hn : (xs.map (·.1)).Nodup) (hz : ys.length < 100000) (hk : EvE T rI ta es k) (he : EvE T R te es x) (c : To T G0 H0 D.nx (es.set i (.own (oDL R) (xs.set j (k, ys ++ [x]))))) :
    Go T G0 H0 (tDrop (tBM K "list" rAppend (tDGet (tVar i) ta) (tCons te tNil))) D es := fun G H σ F m => by
  obtain ⟨p, kvs, hv, hF, hp, hl, hnd, ha⟩ := m.dl hx
  obtain ⟨kv, hkv, h1, q, vs, h2, h3, h4, h5⟩ := ha.get hj
  have hjl : j < xs.length := (List.getElem?_eq_some_iff.mp hj).1
  have hln := ha.length
  refine ⟨_, hv, hk G0 H0 G H σ F m _ fun w G1 H1 s1 r1 => ⟨p, .ref q, rfl, ?_, ?_⟩⟩
  · have : valV kvs (.inl k) = some (.ref q) := val_at (j := j) (by rw [hkv, ← h2, ← h1]) fun i' p' hi hp' e => by
      obtain ⟨y, hy, hd⟩ := ha.getl hp'
      have : y.1 = k := by
        have := hd.1
        rw [e] at this
        exact (Sum.inl.inj this).symm
      have hi' : i' < xs.length := (List.getElem?_eq_some_iff.mp hy).1
      have e3 : (xs.map (·.1))[i']'(by simpa using hi') = (xs.map (·.1))[j]'(by simpa using hjl) := by
        have a1 := (List.getElem?_eq_some_iff.mp hy).2
        have a2 := (List.getElem?_eq_some_iff.mp hj).2
        rw [List.getElem_map, List.getElem_map, a1, a2, this]
      have := (List.getElem_inj hn).mp e3
      omega
    rw [← this, show w = kV (.inl k) from r1]
    exact DGet.k (s1.h p _ hp fun _ z => by cases z)
  · have hq1 : H1 q = some (.lst vs) := s1.h q _ (m.en.sub i q _ h3).1 fun _ z => by cases z
    refine ⟨.inl ⟨rfl, vs, Evl.sq_of hq1⟩, he G0 H0 G1 H1 σ F (m.step s1) _ fun u G2 H2 s2 r2 => ?_⟩
    have m2 := (m.step s1).step s2
    have hq2 : H2 q = some (.lst vs) := s2.h q _ hq1 fun _ z => by cases z
    have hqp : p ≠ q := fun e => by
      rw [← e, hF] at h3
      cases h3
    have g2 := Evl.Ex.trans s1.g s2.g
    have hvl : vs.length = ys.length := h5.length
    refine ⟨q, vs, u, rfl, rfl, hq2, Evl.sz_lt (by omega), c G2 _ _ _ (at_other (i := i) (q := q) m2 hv h3 pl_lst ⟨p, kvs, rfl, by rw [upd_ne hqp]; exact hF, hl, hnd, ?_⟩)⟩
    refine All2.of_get (by rw [List.length_set]; exact hln) fun i' a b hia hib => ?_
    rcases set_get hib with ⟨rfl, rfl, _⟩ | ⟨hi, hib⟩
    · rw [hkv] at hia
      cases hia
      exact ⟨h1, q, _, h2, upd_same, by simp; omega, (h5.imp fun _ _ => R.mono g2).snoc r2⟩
    · obtain ⟨a', ha', d1, q', vs', d2, d3, d4, d5⟩ := ha.get hib
      rw [hia] at ha'
      cases ha'
      have hqq : q' ≠ q := fun e => by
        have hi1 : i' < kvs.length := (List.getElem?_eq_some_iff.mp hia).1
        have hi2 : j < kvs.length := (List.getElem?_eq_some_iff.mp hkv).1
        have e3 : (kvs.map fun (kv : Key × V) => refOf kv.2)[i']'(by simpa using hi1) = (kvs.map fun (kv : Key × V) => refOf kv.2)[j]'(by simpa using hi2) := by
          have a1 := (List.getElem?_eq_some_iff.mp hia).2
          have a2 := (List.getElem?_eq_some_iff.mp hkv).2
          rw [List.getElem_map, List.getElem_map, a1, a2, d2, h2, e]
        exact hi ((List.getElem_inj hnd).mp e3)
      exact ⟨d1, q', vs', d2, by rw [upd_ne hqq]; exact d3, d4, d5.imp fun _ _ => R.mono g2⟩
/-- a dict of own lists, these given out, itself still own -/
theorem dl_out {G H H0 F : Hp} {v : V} {xs : List (Int × List α)} (st : Step T G0 H0 G H) (fr : Fresh G H H0 F) (h : (oDL R).r G F v xs) : ∃ G' F', Step T G0 H0 G' H ∧ Fresh G' H H0 F' ∧ (oD (rL R)).r G' F' v xs := by
  obtain ⟨p, kvs, rfl, hF, hl, hnd, ha⟩ := h
  have f2 : Fresh G H H0 (fun b => if b = p then none else F b) := fun b o hb => by
    dsimp only at hb
    by_cases e : b = p
    · rw [if_pos e] at hb
      cases hb
    · rw [if_neg e] at hb
      exact fr b o hb
  have s2 := step_frz st f2
  refine ⟨_, one p (.dK kvs), s2, fun b o hb => ?_, p, kvs, rfl, rfl, hl, ?_⟩
  · obtain ⟨rfl, rfl⟩ := one_some hb
    obtain ⟨h1, h2, h3, h4⟩ := fr b _ hF
    refine ⟨h1, ?_, h3, h4⟩
    rw [both_r h2, if_pos rfl]
  · refine ha.imp fun a b ⟨h1, q, vs, h2, h3, h4, h5⟩ => ⟨h1, q, vs, h2, ?_, h4, h5.imp fun _ _ => R.mono ex_both⟩
    have hqp : q ≠ p := fun e => by
      rw [e, hF] at h3
      cases h3
    rw [both_r (fr q _ h3).2.1, if_neg hqp]
    exact h3
end
end AO
set_option Elab.async false
set_option linter.all false
set_option maxRecDepth 100000
set_option maxHeartbeats 1000000
/-! AOExpr3: isinstance, sorted, loans. -/
namespace AO
universe u v
open PySem L2
theorem ps_dead {X : Cx} {st : Stmt} : PS X st (fun _ _ _ => False) := ⟨fun _ _ _ _ _ _ h => h.elim⟩
theorem pss_dead {X : Cx} {st : List Stmt} : PSs X st (fun _ _ _ => False) := ⟨fun _ _ _ _ _ _ h => h.elim⟩
theorem pe_dead {X : Cx} {e : Expr} : PE X e (fun _ _ _ => False) := ⟨fun _ _ _ _ _ _ h => h.elim⟩
/-- two readings of one thing: either serves -/
theorem pe_either {X : Cx} {e : Expr} {t u : TE} (h : PE X e t) (h2 : PE X e u) : PE X e (fun σ H Q => t σ H Q ∨ u σ H Q) := ⟨fun pins s σ H Q I hw => by
  rcases hw with hw | hw
  · exact h.run pins s σ H Q I hw
  · exact h2.run pins s σ H Q I hw⟩
/-- numbers, rising -/
def sortN (xs : List Nat) : List Nat := xs.mergeSort (fun a b => decide (a ≤ b))
theorem sortN_perm (xs : List Nat) : (sortN xs).Perm xs := List.mergeSort_perm xs _
theorem sortN_pw (xs : List Nat) : (sortN xs).Pairwise (· ≤ ·) := by
  have := List.pairwise_mergeSort (le := fun a b : Nat => decide (a ≤ b)) (fun a b c h1 h2 => by simp at *; omega) (fun a b => by simp; omega) xs
  exact this.imp fun h => by simpa using h
theorem sort_uniqI {a b : List Int} (h : a.Perm b) (ha : a.Pairwise (· ≤ ·)) (hb : b.Pairwise (· ≤ ·)) : a = b := List.Perm.eq_of_pairwise (le := (· ≤ ·)) (fun _ _ _ _ h1 h2 => Int.le_antisymm h1 h2) ha hb h
theorem sort_uniqN {a b : List Nat} (h : a.Perm b) (ha : a.Pairwise (· ≤ ·)) (hb : b.Pairwise (· ≤ ·)) : a = b := List.Perm.eq_of_pairwise (le := (· ≤ ·)) (fun _ _ _ _ h1 h2 => Nat.le_antisymm h1 h2) ha hb h
theorem sortN_range {xs : List Nat} : sortN xs = List.range xs.length ↔ xs.Perm (List.range xs.length) := by
  constructor
  · intro h
    have := sortN_perm xs
    rw [h] at this
    exact this.symm
  · intro h
    exact sort_uniqN ((sortN_perm xs).trans h) (sortN_pw xs) (List.pairwise_lt_range.imp Nat.le_of_lt)
section
variable {T : List (Addr × Str)} {G0 H0 : Hp} {es es2 : List Cell} {α β γ : Type} {R : Rep α} {S : Rep β} {U : Rep γ} {O : Own α} {x : α} {y : β} {te ta tb tc : TE} {D : Ends} {t u : TS} {K : PySem.W.Frag}
/-! ### isinstance -/
theorem ev_isi {c : V} {w t : Value} {b : Bool} (h : EvE T R te es x) (ht : ∀ G H v, Mid T G H → R.r G v x → TyX K H v t) (hc : ClsV c w) (hk : PySem.W.kitOne K t w = some b) : EvE T rB (tCB (rIsi K) (tCons te (tCons (tC c) tNil))) es b := fun G0 H0 G H σ F m Q q =>
  h G0 H0 G H σ F m _ fun v G1 H1 s1 r1 => ⟨v, c, t, w, b, rfl, hc, ht G1 H1 v s1.m r1, hk, q _ G1 H1 s1 rfl⟩
theorem ty_L {xs : List α} : ∀ G H v, Mid T G H → (rL R).r G v xs → TyX K H v (.type "list") := fun G H v m ⟨a, vs, e, hs, _, _⟩ => by
  rw [e]
  exact .base (.lst (m.ex _ _ hs))
theorem ty_I {i : Int} : ∀ G H v, Mid T G H → rI.r G v i → TyX K H v (.type "int") := fun G H v m e => by
  rw [show v = .int i from e]
  exact .base (.int i)
theorem ty_N {i : Nat} : ∀ G H v, Mid T G H → rN.r G v i → TyX K H v (.type "int") := fun G H v m e => by
  rw [show v = .int (i : Int) from e]
  exact .base (.int _)
theorem ty_B {b : Bool} : ∀ G H v, Mid T G H → rB.r G v b → TyX K H v (.type "bool") := fun G H v m e => by
  rw [show v = .bl b from e]
  exact .base (.bl b)
/-! ### sorted -/
theorem eo_sortedI {xs : List Int} {ys : List Int} (h : EvE T (rL rI) te es xs) (hp : ys.Perm xs) (hs : ys.Pairwise (· ≤ ·)) : EvO T (oL rI) (tCB (rSortedI K) (tCons te tNil)) es ys := fun G0 H0 G H σ F m Q q => h G0 H0 G H σ F m _ fun v G1 H1 s1 r => by
  obtain ⟨a, vs, rfl, ha, hl, hv⟩ := r
  refine ⟨a, xs, rfl, by rw [← vals_int hv]; exact Evl.sq_of (s1.m.ex _ _ ha), fun ns' p h1 h2 h3 => ?_⟩
  have e : ns' = ys := sort_uniqI (h1.trans hp.symm) h2 hs
  subst e
  exact newO s1.m (fun v G' H' F' s f r => q v G' H' F' (s1.trans s) (f.back s1.h) r) h3 pl_lst ⟨p, _, rfl, rfl, by rw [List.length_map, hp.length_eq, ← hv.length]; exact hl, of_int _⟩
theorem eo_sortedN {xs : List Nat} (h : EvE T (rL rN) te es xs) : EvO T (oL rN) (tCB (rSortedI K) (tCons te tNil)) es (sortN xs) := fun G0 H0 G H σ F m Q q => h G0 H0 G H σ F m _ fun v G1 H1 s1 r => by
  obtain ⟨a, vs, rfl, ha, hl, hv⟩ := r
  refine ⟨a, xs.map (fun n : Nat => (n : Int)), rfl, by rw [← vals_nat hv]; exact Evl.sq_of (s1.m.ex _ _ ha), fun ns' p h1 h2 h3 => ?_⟩
  have e : ns' = (sortN xs).map (fun n : Nat => (n : Int)) := sort_uniqI (h1.trans ((sortN_perm xs).map _).symm) h2 (by
    rw [List.pairwise_map]
    exact (sortN_pw xs).imp fun h => by omega)
  subst e
  exact newO s1.m (fun v G' H' F' s f r => q v G' H' F' (s1.trans s) (f.back s1.h) r) h3 pl_lst ⟨p, _, rfl, rfl, by rw [List.length_map, List.length_map, (sortN_perm xs).length_eq, ← hv.length]; exact hl, of_nat _⟩
/-! ### loans: an own thing is read as if given out, where what comes is flat -/
def Flat (R : Rep α) : Prop := ∀ G G' v x, R.r G v x → R.r G' v x
theorem flat_B : Flat rB := fun _ _ _ _ h => h
theorem flat_I : Flat rI := fun _ _ _ _ h => h
theorem flat_N : Flat rN := fun _ _ _ _ h => h
theorem step_loan {G H F G' H' : Hp} (m : Mid T G H) (s : Step T (both G F) H G' H') : Step T G H G H' :=
  ⟨⟨fun b o e => s.m.ex b o (s.g b o (both_l e)), m.nt, s.m.tb⟩, fun _ _ e => e, s.h, fun _ _ _ _ n => n⟩
theorem ev_loan {i : Nat} (h : es[i]? = some (.own O x)) (f : Frz O R) (fl : Flat S) (k : EvE T S te (es.set i (.val R x)) y) : EvE T S te es y := fun G0 H0 G H σ F m Q q =>
  k G0 H0 _ H σ _ (m.frz h f) Q fun v G' H' s r => q v G H' (step_loan m.m s) (fl _ _ _ _ r)
theorem eb_loan {tt : TT} {b : Bool} {i : Nat} (h : es[i]? = some (.own O x)) (f : Frz O R) (k : EvB T tt (es.set i (.val R x)) b) : EvB T tt es b := fun G0 H0 G H σ F m Q q =>
  k G0 H0 _ H σ _ (m.frz h f) Q fun G' H' s => q G H' (step_loan m.m s)
/-- a new thing, read again: as given out -/
theorem frz_oR {R : Rep α} : Frz (oR R) R := frz_R
end
end AO
set_option Elab.async false
set_option linter.all false
set_option maxRecDepth 100000
set_option maxHeartbeats 1000000
/-! AOOwn: an own list of own lists. -/
namespace AO
universe u v
open PySem L2
def LE {α : Type} (R : Rep α) (G F : Hp) (w : V) (ys : List α) : Prop := ∃ q ws, w = .ref q ∧ F q = some (.lst ws) ∧ ws.length ≤ 100000 ∧ All2 (R.r G) ws ys
theorem LE.mono {α : Type} {R : Rep α} {G G' F F' : Hp} {w : V} {ys : List α} (e : Ex G G') (f : ∀ q ws, F q = some (.lst ws) → w = .ref q → F' q = some (.lst ws)) (h : LE R G F w ys) : LE R G' F' w ys := by
  obtain ⟨q, ws, h1, h2, h3, h4⟩ := h
  exact ⟨q, ws, h1, f q ws h2 h1, h3, h4.imp fun _ _ => R.mono e⟩
def oLL {α : Type} (R : Rep α) : Own (List (List α)) := ⟨fun G F v xs => ∃ (p : Addr) (vs : List V), v = .ref p ∧ F p = some (.lst vs) ∧ vs.length ≤ 100000 ∧ (vs.map refOf).Nodup ∧ p ∉ vs.map refOf ∧ All2 (LE R G F) vs xs,
  fun e ⟨p, vs, h1, h2, h3, h4, h5, h6⟩ => ⟨p, vs, h1, h2, h3, h4, h5, h6.imp fun _ _ => LE.mono e fun _ _ h _ => h⟩⟩
/-- whatever it is -/
def oX : Own Unit := ⟨fun _ _ _ _ => True, fun _ h => h⟩
theorem oLL_grow {α : Type} {R : Rep α} {G F F' : Hp} {v : V} {xs : List (List α)} (h : (oLL R).r G F v xs) (e : ∀ b o, F b = some o → F' b = some o) : (oLL R).r G F' v xs := by
  obtain ⟨p, vs, h1, h2, h3, h4, h5, h6⟩ := h
  exact ⟨p, vs, h1, e _ _ h2, h3, h4, h5, h6.imp fun _ _ => LE.mono (fun _ _ h => h) fun _ _ h _ => e _ _ h⟩
theorem frz_LL {α : Type} {R : Rep α} : Frz (oLL R) (rL (rL R)) := fun G F v xs ⟨p, vs, h1, h2, h3, h4, h5, h6⟩ hd => by
  have hp : ∀ b o, F b = some o → both G F b = some o := fun b o h => by
    rw [both_r (hd b (by rw [h]; simp)), h]
  exact ⟨p, vs, h1, hp _ _ h2, h3, h6.imp fun _ _ ⟨q, ws, a, b, c, d⟩ => ⟨q, ws, a, hp _ _ b, c, d.imp fun _ _ => R.mono ex_both⟩⟩
theorem mem_ref {α : Type} {R : Rep α} {G F : Hp} {vs : List V} {xs : List (List α)} (h : All2 (LE R G F) vs xs) {q : Addr} (hq : q ∈ vs.map refOf) : ∃ ws, F q = some (.lst ws) ∧ ∃ i : Nat, vs[i]? = some (.ref q) := by
  obtain ⟨w, hw, e⟩ := List.mem_map.mp hq
  obtain ⟨i, hi, e2⟩ := List.mem_iff_getElem.mp hw
  obtain ⟨y, hy, q', ws, a, b, c, d⟩ := h.getl (List.getElem?_eq_getElem hi)
  rw [e2] at a
  rw [a] at e
  have e : q' = q := e
  subst e
  exact ⟨ws, b, i, by rw [List.getElem?_eq_getElem hi, e2, a]⟩
section
variable {T : List (Addr × Str)} {G0 H0 G H : Hp} {σ : St} {F : Nat → Hp} {es es2 : List Cell} {α β : Type} {R : Rep α} {O : Own α} {x : α} {O' : Own β} {y : β}
/-- what slot j owns goes over to slot i -/
theorem at_move {i j : Nat} {v : V} (m : At T G0 H0 G H σ F es) (hij : i ≠ j) (hv : σ[i]? = some (some v)) (hr : O'.r G (both (F i) (F j)) v y) : At T G0 H0 G H σ (setF (setF F j none0) i (both (F i) (F j))) ((es.set j .no).set i (.own O' y)) := by
  refine ⟨m.st, by rw [List.length_set, List.length_set]; exact m.ln, fun k c h => ?_, fun k b o h => ?_, fun k l b hkl h => ?_⟩
  · rcases set_get h with ⟨rfl, rfl, hl⟩ | ⟨hk, h⟩
    · rw [setF_same]
      exact ⟨v, hv, hr⟩
    · rw [setF_ne hk]
      rcases set_get h with ⟨rfl, rfl, hl⟩ | ⟨hk2, h⟩
      · trivial
      · rw [setF_ne hk2]
        exact m.en.at_ k c h
  · by_cases e : k = i
    · subst e
      rw [setF_same] at h
      rcases both_some h with h | ⟨_, h⟩
      · exact m.en.sub k b o h
      · exact m.en.sub j b o h
    · rw [setF_ne e] at h
      by_cases e2 : k = j
      · subst e2
        rw [setF_same] at h
        cases h
      · rw [setF_ne e2] at h
        exact m.en.sub k b o h
  · have un : ∀ {b}, both (F i) (F j) b ≠ none → F i b ≠ none ∨ F j b ≠ none := fun {b} h => by
      cases z : both (F i) (F j) b with
      | none => exact absurd z h
      | some o =>
        rcases both_some z with z | ⟨_, z⟩
        · left; rw [z]; simp
        · right; rw [z]; simp
    have no : ∀ {b}, F i b = none → F j b = none → both (F i) (F j) b = none := fun h1 h2 => by rw [both_r h1, h2]
    by_cases e : k = i
    · subst e
      rw [setF_same] at h
      rw [setF_ne (Ne.symm hkl)]
      by_cases e2 : l = j
      · subst e2
        rw [setF_same] <;> rfl
      · rw [setF_ne e2]
        rcases un h with h | h
        · exact m.en.dis k l b hkl h
        · exact m.en.dis j l b (Ne.symm e2) h
    · rw [setF_ne e] at h
      by_cases e3 : k = j
      · subst e3
        rw [setF_same] at h
        exact absurd rfl h
      · rw [setF_ne e3] at h
        by_cases e2 : l = i
        · subst e2
          rw [setF_same]
          exact no (m.en.dis k l b e h) (m.en.dis k j b e3 h)
        · rw [setF_ne e2]
          by_cases e4 : l = j
          · subst e4
            rw [setF_same] <;> rfl
          · rw [setF_ne e4]
            exact m.en.dis k l b hkl h
end
section
variable {T : List (Addr × Str)} {G0 H0 : Hp} {es : List Cell} {α : Type} {R : Rep α} {x : α} {te ta : TE} {D : Ends} {K : PySem.W.Frag}
theorem eo_lstL : EvO T (oLL R) (tLst tNil) es [] := fun G0 H0 G H σ F m Q q => ⟨by show 0 ≤ _; exact Nat.zero_le _, fun p hp => newO m.m q hp pl_lst ⟨p, [], rfl, one_same, Nat.zero_le _, List.nodup_nil, List.not_mem_nil, .nil⟩⟩
/-- xs.append(ys), both own -/
theorem go_appOwn {i j : Nat} {xs : List (List α)} {ys : List α} (hij : i ≠ j) (hx : es[i]? = some (.own (oLL R) xs)) (hy : es[j]? = some (.own (oL R) ys)) (hz : xs.length < 100000) (c : To T G0 H0 D.nx ((es.set j .no).set i (.own (oLL R) (xs ++ [ys])))) :
    Go T G0 H0 (tDrop (tBM K "list" rAppend (tVar i) (tCons (tVar j) tNil))) D es := fun G H σ F m => by
  obtain ⟨q, ws, hw, hFj, hq, hlq, hb⟩ := m.list hy
  obtain ⟨v, hv, p, vs, rfl, hF, hl, hnd, hpn, ha⟩ := m.own hx
  have hp : H p = some (.lst vs) := (m.en.sub i p _ hF).1
  have hln := ha.length
  have hqF : F i q = none := m.en.dis j i q (Ne.symm hij) (by rw [hFj, one_same]; simp)
  have hpF : F j p = none := m.en.dis i j p hij (by rw [hF]; simp)
  refine ⟨_, hv, .inl ⟨rfl, vs, Evl.sq_of hp⟩, _, hw, p, vs, .ref q, rfl, rfl, hp, Evl.sz_lt (by omega), ?_⟩
  have m1 := at_move (O' := oLL R) (y := xs) m hij hv (oLL_grow (F := F i) ⟨p, vs, rfl, hF, hl, hnd, hpn, ha⟩ fun b o h => both_l h)
  have hFi : setF (setF F j none0) i (both (F i) (F j)) i = both (F i) (F j) := setF_same
  have hpp : both (F i) (F j) p = some (.lst vs) := both_l hF
  have m2 := at_other (i := i) (q := p) (O' := oLL R) (y := xs ++ [ys]) m1 hv (by rw [hFi]; exact hpp) (pl_lst (xs := vs ++ [.ref q])) (by
    rw [hFi]
    have hqp : q ≠ p := fun e => by
      rw [e, hF] at hqF
      cases hqF
    have hqn : q ∉ vs.map refOf := fun e => by
      obtain ⟨ws2, h1, _⟩ := mem_ref ha e
      rw [h1] at hqF
      cases hqF
    refine ⟨p, _, rfl, upd_same, by simp; omega, ?_, ?_, ?_⟩
    · rw [List.map_append, List.nodup_append]
      refine ⟨hnd, by simp, fun a ha' b hb' => ?_⟩
      have hb' : b = q := by simpa [refOf] using hb'
      subst hb'
      intro e
      exact hqn (e ▸ ha')
    · rw [List.map_append, List.mem_append]
      rintro (h | h)
      · exact hpn h
      · have : p = q := by simpa [refOf] using h
        exact hqp this.symm
    · have up : ∀ b, b ≠ p → upd (both (F i) (F j)) p (.lst (vs ++ [.ref q])) b = both (F i) (F j) b := fun b hb => upd_ne hb
      refine All2.snoc ?_ ⟨q, ws, rfl, by rw [up q hqp, both_r hqF, hFj, one_same], hlq, hb⟩
      refine All2.of_get hln fun k a b hka hkb => ?_
      obtain ⟨a', ha', r⟩ := ha.get hkb
      rw [hka] at ha'
      cases ha'
      refine r.mono (fun _ _ h => h) fun q' ws' h1 h2 => ?_
      have : q' ≠ p := fun e => hpn (List.mem_map.mpr ⟨a, List.mem_of_getElem? hka, by rw [h2, e]; rfl⟩)
      rw [up q' this]
      exact both_l h1)
  have e : ((es.set j .no).set i (Cell.own (oLL R) xs)).set i (Cell.own (oLL R) (xs ++ [ys])) = (es.set j .no).set i (Cell.own (oLL R) (xs ++ [ys])) := List.set_set ..
  rw [e] at m2
  exact c G _ _ _ m2
/-- xs[k].append(x) -/
theorem go_appAt {i k : Nat} {xs : List (List α)} {ys : List α} (hx : es[i]? = some (.own (oLL R) xs)) (hk : xs[k]? = some ys) (hz : ys.length < 100000) (hi : EvE T rN ta es k) (he : EvE T R te es x) (c : To T G0 H0 D.nx (es.set i (.own (oLL R) (xs.set k (ys ++ [x]))))) :
    Go T G0 H0 (tDrop (tBM K "list" rAppend (tOp (rIxL K) (tVar i) ta) (tCons te tNil))) D es := fun G H σ F m => by
  obtain ⟨v, hv, p, vs, rfl, hF, hl, hnd, hpn, ha⟩ := m.own hx
  have hp : H p = some (.lst vs) := (m.en.sub i p _ hF).1
  have hln := ha.length
  obtain ⟨w0, hw0, q, ws, rfl, hq, hwl, hws⟩ := ha.get hk
  have hqH : H q = some (.lst ws) := (m.en.sub i q _ hq).1
  refine ⟨_, hv, hi G0 H0 G H σ F m _ fun u G1 H1 s1 r1 => ⟨p, vs, _, .ref q, rfl, r1, Evl.sq_of (s1.h p _ hp fun _ z => by cases z), at_nat hw0, ?_⟩⟩
  have hq1 : H1 q = some (.lst ws) := s1.h q _ hqH fun _ z => by cases z
  refine ⟨.inl ⟨rfl, ws, Evl.sq_of hq1⟩, he G0 H0 G1 H1 σ F (m.step s1) _ fun u2 G2 H2 s2 r2 => ?_⟩
  have m2 := (m.step s1).step s2
  have hq2 : H2 q = some (.lst ws) := s2.h q _ hq1 fun _ z => by cases z
  have g2 := Evl.Ex.trans s1.g s2.g
  have hwl2 : ws.length = ys.length := hws.length
  have hqm : q ∈ vs.map refOf := List.mem_map.mpr ⟨_, List.mem_of_getElem? hw0, rfl⟩
  have hqp : q ≠ p := fun e => hpn (e ▸ hqm)
  refine ⟨q, ws, u2, rfl, rfl, hq2, Evl.sz_lt (by omega), c G2 _ _ _ (at_other (i := i) (q := q) m2 hv hq pl_lst ⟨p, vs, rfl, by rw [upd_ne (Ne.symm hqp)]; exact hF, hl, hnd, hpn, ?_⟩)⟩
  refine All2.of_get (by rw [List.length_set]; exact hln) fun l a b hla hlb => ?_
  rcases set_get hlb with ⟨rfl, rfl, _⟩ | ⟨hlk, hlb⟩
  · rw [hw0] at hla
    cases hla
    exact ⟨q, _, rfl, upd_same, by simp; omega, (hws.imp fun _ _ => R.mono g2).snoc r2⟩
  · obtain ⟨a', ha', r⟩ := ha.get hlb
    rw [hla] at ha'
    cases ha'
    refine r.mono g2 fun q' ws' h1 h2 => ?_
    have : q' ≠ q := fun e => by
      have hi1 : l < vs.length := (List.getElem?_eq_some_iff.mp hla).1
      have hi2 : k < vs.length := (List.getElem?_eq_some_iff.mp hw0).1
      have e3 : (vs.map refOf)[l]'(by simpa using hi1) = (vs.map refOf)[k]'(by simpa using hi2) := by
        have a1 := (List.getElem?_eq_some_iff.mp hla).2
        have a2 := (List.getElem?_eq_some_iff.mp hw0).2
        rw [List.getElem_map, List.getElem_map, a1, a2, h2, e]
      exact hlk ((List.getElem_inj hnd).mp e3)
    rw [upd_ne this]
    exact h1
/-- xs.append(e), what it holds then not told any more -/
theorem go_appX {i : Nat} {xs : List (List α)} {β : Type} {S : Rep β} {y : β} (hx : es[i]? = some (.own (oLL R) xs)) (hz : xs.length < 100000) (he : EvE T S te es y) (c : To T G0 H0 D.nx (es.set i (.own oX ()))) :
    Go T G0 H0 (tDrop (tBM K "list" rAppend (tVar i) (tCons te tNil))) D es := fun G H σ F m => by
  obtain ⟨v, hv, p, vs, rfl, hF, hl, hnd, hpn, ha⟩ := m.own hx
  have hp : H p = some (.lst vs) := (m.en.sub i p _ hF).1
  have hln := ha.length
  refine ⟨_, hv, .inl ⟨rfl, vs, Evl.sq_of hp⟩, he G0 H0 G H σ F m _ fun u G1 H1 s1 r1 => ?_⟩
  exact ⟨p, vs, u, rfl, rfl, s1.h p _ hp (fun _ z => by cases z), Evl.sz_lt (by omega), c G1 _ _ _ (at_other (i := i) (q := p) (m.step s1) hv hF pl_lst trivial)⟩
end
end AO
set_option Elab.async false
set_option linter.all false
set_option maxRecDepth 100000
set_option maxHeartbeats 4000000
namespace AO
open PySem L2
section
variable {P : Program} {w : World} {K : PySem.W.Frag} {mg : Str → Option Value} {base : Heap} {T : List (Addr × Str)}
theorem sc_rings_of : FnScope ["order", "found", "seen", "start", "ring", "now"] ["order"] (defScope s_rings_of) := ⟨rfl, rfl, rfl, by decide +kernel, rfl, by decide +kernel, by decide +kernel⟩
abbrev spRings (T : List (Addr × Str)) : Sp := spO T (fun σ : List Nat => [.val (rL rN) σ]) (fun σ => IsP σ ∧ σ.length ≤ 70) (oLL rN) rings
theorem ok_rings_of {f : Addr} {fd : FuncData} (Df : Def K mg "rings_of" s_rings_of ["order"] f fd) (B : Bn mg) :
    Pr P w K mg base CX0 (0 + 1) "rings_of" ["order"] (spRings T) := by
  refine fn_O Df sc_rings_of (fun _ => rfl) fun cdv A outer s H E hr => ⟨_, (pss_cons (ps_set (i := 1) sc_rings_of.nd rfl (.inl rfl) (pe_lst pa_nil))
    (pss_cons (ps_set (i := 2) sc_rings_of.nd rfl (.inl rfl) (pe_op op_rep (pe_lst (pa_cons pe_bl pa_nil)) (pe_callB call_len_seq (by rfl) B.len PySem.boot_len (pa_cons (pv 0) pa_nil))))
    (pss_cons (ps_for PassesOwn.never rfl (pi_range1 (by rfl) B.range (pa_cons (pe_callB call_len_seq (by rfl) B.len PySem.boot_len (pa_cons (pv 0) pa_nil)) pa_nil)) (pg_name (i := 3) sc_rings_of.nd rfl (.inl rfl)) (pss_cons (ps_set (i := 4) sc_rings_of.nd rfl (.inl rfl) (pe_lst pa_nil))
    (pss_cons (ps_set (i := 5) sc_rings_of.nd rfl (.inl rfl) (pv 3))
    (pss_cons (ps_while PassesOwn.never (pt_not (pt_val (pe_ix ix_list (pv 2) (pv 5) (fun _ _ => rfl)))) (pss_cons (ps_asg pe_bl (pg_sub (pv 2) (pv 5) set_list))
    (pss_cons (ps_expr (pe_bm PySem.F.plainAttrs_list PySem.F.slot_list_append PySem.F.type_list_append mt_append (pv 4) (pa_cons (pv 5) pa_nil)))
    (pss_one (ps_set (i := 5) sc_rings_of.nd rfl (.inl rfl) (pe_ix ix_list (pv 0) (pv 5) (fun _ _ => rfl)))))))
    (pss_one (ps_if (pt_cmpR op_gt (pe_callB call_len_seq (by rfl) B.len PySem.boot_len (pa_cons (pv 4) pa_nil)) pe_int (nomark _)) (pss_one (ps_expr (pe_bm PySem.F.plainAttrs_list PySem.F.slot_list_append PySem.F.type_list_append mt_append (pv 1) (pa_cons (pv 4) pa_nil)))) (pss_nil)))))))
    (pss_one (ps_ret (pv 1)))))), fun σ G0 H0 D hp hq hn => ?_⟩
  obtain ⟨hP, hz⟩ := hp
  refine go_seq (go_asgO (eo_lstL (R := rN)) (to_go ?_))
  refine go_seq (go_asgO (eo_rep (ev_frz frz_L (eo_lst (xs := [false]) (ea_cons ev_bl ea_nil) (by simp))) (ev_len (ev_var (i := 0) rfl)) (by omega)) (to_go ?_))
  refine go_seq (go_forS (xs := List.range σ.length) [3] (fun s : List (List Nat) × List Bool => [.val (rL rN) σ, .own (oLL rN) s.1, .own (oL rB) s.2, .no, .no, .no])
    (fun i s => s.1 = ((List.range i).filter (isMin σ)).map (orb σ) ∧ s.2.length = σ.length ∧ ∀ x, x < σ.length → (s.2.getD x false = true ↔ ∃ t, t < i ∧ x ∈ orb σ t)) ([], List.replicate σ.length false)
    (evi_rng1 (ev_len (ev_var (i := 0) rfl)) (by omega)) Wk.refl ⟨rfl, by simp, fun x hx => by simp [hx]⟩ (fun G1 sh i x s hx ps => ?_) fun s ps => ?_)
  · obtain ⟨rfl, hi⟩ : x = i ∧ i < σ.length := by
      obtain ⟨h1, h2⟩ := List.getElem?_eq_some_iff.mp hx
      simp at h1 h2
      exact ⟨h2.symm, h1⟩
    obtain ⟨found, seen⟩ := s
    obtain ⟨p1, p2, p3⟩ := ps
    dsimp only at p1 p2 p3
    refine ⟨_, tg_name, ?_⟩
    refine go_seq (go_asgO (eo_lst0 (R := rN)) (to_go ?_))
    refine go_seq (go_asg (ev_var (R := rN) (x := x) (i := 3) rfl) (to_go ?_))
    refine go_seq (go_whileS (fun s : List Bool × Nat => [.val (rL rN) σ, .own (oLL rN) found, .own (oL rB) s.1, .val rN x, .own (oL rN) ((List.range s.2).map fun j => it σ j x), .val rN (it σ s.2 x)])
      (fun s => s.1.length = σ.length ∧ s.2 ≤ per σ x ∧ (0 < s.2 → isMin σ x = true) ∧ ∀ y, y < σ.length → (s.1.getD y false = true ↔ SeenAt σ x s.2 y)) (fun s => per σ x - s.2) (fun s => !s.1.getD (it σ s.2 x) false) (seen, 0) Wk.refl
      ⟨p2, Nat.zero_le _, fun h => absurd h (Nat.lt_irrefl 0), fun y hy => ?_⟩ (fun s ps => ?_) (fun s ps hb => ?_) fun s ps hb => ?_)
    · rw [p3 y hy]
      constructor
      · exact .inl
      · rintro (h | ⟨j, hj, _⟩)
        · exact h
        · omega
    · obtain ⟨q1, q2, q3, q4⟩ := ps
      have hlt := hP.it_lt hi s.2
      exact eb_not (eb_B (ev_is (ev_ixO (i := 2) (k := it σ s.2 x) rfl (ev_var (i := 5) rfl) (List.getElem?_eq_getElem (by omega))) (by rw [List.getD_eq_getElem?_getD, List.getElem?_eq_getElem (by omega)]; rfl)))
    · obtain ⟨q1, q2, q3, q4⟩ := ps
      obtain ⟨sn, k⟩ := s
      dsimp only at q1 q2 q3 q4 hb
      have hlt := hP.it_lt hi k
      have hns : ¬ SeenAt σ x k (it σ k x) := fun z => by
        rw [(q4 _ hlt).mpr z] at hb
        cases hb
      have hk := seen_not hP q2 hns
      refine go_seq (go_setL (i := 2) (k := it σ k x) rfl (by show _ < sn.length; omega) ev_bl (ev_var (i := 5) rfl) (to_go ?_))
      refine go_seq (go_app (i := 4) (x := it σ k x) rfl (by simp; have := per_le hP hi; omega) (ev_var (i := 5) rfl) (to_go ?_))
      refine go_asg (ev_ixL (ev_var (i := 0) rfl) (ev_var (i := 5) rfl) (List.getElem?_eq_getElem hlt)) (to_S (sn.set (it σ k x) true, k + 1) ⟨⟨by simp [q1], hk, fun _ => not_seen_min hP hns, fun y hy => ?_⟩, by dsimp only; omega⟩ ?_)
      · dsimp only
        rw [getD_set (by omega)]
        unfold SeenAt
        by_cases e : y = it σ k x
        · rw [if_pos e]
          exact ⟨fun _ => .inr ⟨k, by omega, e⟩, fun _ => rfl⟩
        · rw [if_neg e, q4 y hy]
          unfold SeenAt
          constructor
          · rintro (h | ⟨j, hj, h⟩)
            · exact .inl h
            · exact .inr ⟨j, by omega, h⟩
          · rintro (h | ⟨j, hj, h⟩)
            · exact .inl h
            · exact .inr ⟨j, by
                by_cases ej : j = k
                · subst ej
                  exact absurd h e
                · omega, h⟩
      · dsimp only
        rw [it_upto_succ, show σ[it σ k x] = it σ (k + 1) x from (ap_lt hlt).symm]
        exact Wk.refl
    · obtain ⟨q1, q2, q3, q4⟩ := ps
      obtain ⟨sn, k⟩ := s
      dsimp only at q1 q2 q3 q4 hb
      have hlt := hP.it_lt hi k
      have hs : SeenAt σ x k (it σ k x) := (q4 _ hlt).mp (by simpa using hb)
      have he := seen_end hP q2 q3 hs
      have hfin : ∀ y, y < σ.length → (sn.getD y false = true ↔ ∃ t, t < x + 1 ∧ y ∈ orb σ t) := fun y hy => (q4 y hy).trans (seen_after hP he y)
      refine to_go (go_if (b := decide (0 < k)) (eb_is (eb_test (ev_gtN (ev_lenO (i := 4) rfl) (ev_k rfl))) (by simp)) (fun hb => ?_) fun hb => ?_)
      · have hb := of_decide_eq_true hb
        obtain ⟨hk, hm⟩ : k = per σ x ∧ isMin σ x = true := by
          rcases he with ⟨e, _⟩ | e
          · omega
          · exact e
        subst hk
        refine go_appOwn (i := 1) (j := 4) (ys := orb σ x) (by decide) rfl rfl ?_ (to_S (found ++ [orb σ x], sn) ⟨?_, q1, hfin⟩ ?_)
        · rw [p1, List.length_map]
          have := List.length_filter_le (isMin σ) (List.range x)
          rw [List.length_range] at this
          omega
        · rw [rings_upto_succ, if_pos hm, p1]
        · exact .keep (.keep (.keep (.drop (.drop (.drop .nil)))))
      · have hb := of_decide_eq_false hb
        obtain ⟨rfl, hm⟩ : k = 0 ∧ isMin σ x = false := by
          rcases he with e | ⟨e, _⟩
          · exact e
          · have := per_pos (σ := σ) x
            omega
        refine go_next (to_S (found, sn) ⟨?_, q1, hfin⟩ (.keep (.keep (.keep (.drop (.drop (.drop .nil)))))))
        rw [rings_upto_succ, hm, if_neg Bool.false_ne_true, p1]
  · obtain ⟨found, seen⟩ := s
    obtain ⟨p1, p2, p3⟩ := ps
    dsimp only at p1
    refine to_go (go_retV (i := 1) (x := found) rfl fun v G H F st fr r => hq v G H F st fr ?_)
    rw [show rings σ = found by rw [p1, List.length_range]; rfl]
    exact r
end
end AO
set_option Elab.async false
set_option linter.all false
set_option maxRecDepth 100000
set_option maxHeartbeats 4000000
namespace AO
open PySem L2
theorem addL_set {xs : List (Int × List (List Nat))} {r : List Nat} {j : Nat} {ys : List (List Nat)} (hj : xs[j]? = some ((r.length : Int), ys)) (hn : (xs.map (·.1)).Nodup) : xs.set j ((r.length : Int), ys ++ [r]) = addL xs r := by
  unfold addL
  rw [if_pos (List.any_eq_true.mpr ⟨_, List.mem_of_getElem? hj, by simp⟩)]
  apply List.ext_getElem?
  intro i
  rw [List.getElem?_map]
  obtain ⟨hjl, hje⟩ := List.getElem?_eq_some_iff.mp hj
  by_cases e : i = j
  · subst e
    rw [List.getElem?_set_self hjl, hj]
    simp
  · rw [List.getElem?_set_ne (Ne.symm e)]
    cases z : xs[i]? with
    | none => rfl
    | some p =>
      obtain ⟨hil, hie⟩ := List.getElem?_eq_some_iff.mp z
      have : p.1 ≠ (r.length : Int) := fun he => by
        have e3 : (xs.map (·.1))[i]'(by simpa using hil) = (xs.map (·.1))[j]'(by simpa using hjl) := by
          rw [List.getElem_map, List.getElem_map, hie, hje, he]
        exact e ((List.getElem_inj hn).mp e3)
      simp [this]
theorem addL_keys {xs : List (Int × List (List Nat))} {r : List Nat} (hn : (xs.map (·.1)).Nodup) : ((addL xs r).map (·.1)).Nodup := by
  unfold addL
  split
  · have : (xs.map (fun p => if p.1 = (r.length : Int) then (p.1, p.2 ++ [r]) else p)).map (·.1) = xs.map (·.1) := by
      rw [List.map_map]
      apply List.map_congr_left
      intro p _
      dsimp
      split <;> rfl
    rw [this]
    exact hn
  · rename_i h
    rw [List.map_append, List.nodup_append]
    refine ⟨hn, by simp, fun a ha b hb => ?_⟩
    have hb : b = (r.length : Int) := by simpa using hb
    subst hb
    intro e
    subst e
    obtain ⟨p, hp, e⟩ := List.mem_map.mp ha
    exact h (List.any_eq_true.mpr ⟨p, hp, by simp [e]⟩)
theorem addL_bd {xs : List (Int × List (List Nat))} {r : List Nat} {n : Nat} (h : ∀ p ∈ xs, p.2.length ≤ n) : ∀ p ∈ addL xs r, p.2.length ≤ n + 1 := by
  unfold addL
  split
  · intro p hp
    obtain ⟨q, hq, rfl⟩ := List.mem_map.mp hp
    have := h q hq
    split
    · simp
      omega
    · omega
  · intro p hp
    rcases List.mem_append.mp hp with hp | hp
    · have := h p hp
      omega
    · rw [List.mem_singleton.mp hp]
      simp
/-- a def's promise, its code object known -/
theorem fn_OC {ι ρ : Type} {P : Program} {w : World} {K : PySem.W.Frag} {mg : Str → Option Value} {base : Heap} {T : List (Addr × Str)} {x : Str} {st : Stmt} {ps N : List Str} {f c : Addr} {fd : FuncData} {k : Nat} {cs : ι → List Cell} {pre : ι → Prop} {O : Own ρ} {g : ι → ρ} (D : Def K mg x st ps f fd) (hc : fd.code = .ref c) (S : FnScope N ps (defScope st)) (hl : ∀ i, (cs i).length = ps.length)
    (hb : ∀ (A : Around) (outer : List Env) (s : Shared) (H : Hp) (E : XK), Room k (A.deeper (PyProof.Rows.envOfC x (defScope st) s.heap.objs.size f (.ref c))) → ∃ t, PSs (cxOf CX0 P w K mg base N x (defScope st) f (.ref c) A outer s H E).nox (defBody st) t ∧
      ∀ (i : ι) (G0 H0 : Hp) (D : Ends), pre i → (∀ v G' H' F', Step T G0 H0 G' H' → Fresh G' H' H0 F' → O.r G' F' v (g i) → D.rt v H') → (∀ σ H, D.rt .non H → D.nx σ H) → Go T G0 H0 t D (cs i ++ List.replicate (N.length - ps.length) .no)) :
    Pr P w K mg base CX0 (k + 1) x ps (spO T cs pre O g) := by
  obtain ⟨oc, od, dV, kV, doc, pm, an, cdv, ct, osl, e, lk, hcd, _, _⟩ := D.F.ex
  have e2 : cdv = .ref c := by
    rw [← hc, e] <;> rfl
  subst e2
  refine D.pr ?_
  rw [e] at lk ⊢
  refine fn_of lk hcd S (fun vs H Q E ⟨i, G, _, _, ha, _⟩ => ha.length.trans (hl i)) fun A outer s H vs Q E hr hsp => ?_
  obtain ⟨i, G, hp, m, ha, q⟩ := hsp
  obtain ⟨t, ht, hg⟩ := hb A outer s H E hr
  have hlen : vs.length = ps.length := ha.length.trans (hl i)
  exact ⟨t, PSs.nox ht, hg i G H _ hp q (fun _ _ h => h) G H _ _ (at_start m ha (by rw [hlen]))⟩
section
variable {P : Program} {w : World} {K : PySem.W.Frag} {mg : Str → Option Value} {base : Heap} {T : List (Addr × Str)}
abbrev spBL (T : List (Addr × Str)) : Sp := spO T (fun σ : List Nat => [.val (rL rN) σ]) (fun σ => IsP σ ∧ σ.length ≤ 70) (oD (rL (rL rN))) byLen
theorem sc_by_length : FnScope ["order", "found", "ring"] ["order"] (defScope s_by_length) := ⟨rfl, rfl, rfl, by decide +kernel, rfl, by decide +kernel, by decide +kernel⟩
theorem ok_by_length {f c Pt : Addr} {fd : FuncData} (Df : Def K mg "by_length" s_by_length ["order"] f fd) (hc : fd.code = .ref c) (TB : LamX.TabB base mg c Pt) (hT : T = [(Pt, ("by_length" : Str) ++ ".<locals>." ++ "<lambda>")]) (B : Bn mg)
    (h_rings_of : Pr P w K mg base CX0 1 "rings_of" ["order"] (spRings T)) :
    Pr P w K mg base CX0 (3 + 1) "by_length" ["order"] (spBL T) := by
  refine fn_OC Df hc sc_by_length (fun _ => rfl) fun A outer s H E hr => ⟨_, (pss_cons (ps_set (i := 1) sc_by_length.nd rfl (.inl rfl) pe_dnewK)
    (pss_cons (ps_for PassesOwn.never rfl (pi_list (pe_sortLam (T := T) (t := tLenFirst K) TB rfl (by rw [hT]; exact List.mem_singleton.mpr rfl) (fun p hp _ => by rw [hT] at hp; rw [List.mem_singleton.mp hp] <;> rfl) hr ⟨rfl, rfl, rfl, by decide +kernel, rfl, by decide +kernel, by decide +kernel⟩ rfl rfl (fun _ _ _ _ _ => rfl) B.sorted (pe_pr h_rings_of (hr.mono (by decide)) (pa_cons (pv 0) pa_nil)) (fun _ _ _ _ _ _ => pe_tup (pa_cons (pe_callB call_len_seq (by rfl) B.len PySem.boot_len (pa_cons (pv 0) pa_nil)) (pa_cons (pe_ix ix_list (pv 0) pe_int (fun _ _ => rfl)) pa_nil))))) (pg_name (i := 2) sc_by_length.nd rfl (.inl rfl)) (pss_cons (ps_if (pt_cmp (pc_dnotin (un_lt hr) (pe_callB call_len_seq (by rfl) B.len PySem.boot_len (pa_cons (pv 2) pa_nil)) (pv 1))) (pss_one (ps_dput (un_lt hr) (pv 1) (pe_callB call_len_seq (by rfl) B.len PySem.boot_len (pa_cons (pv 2) pa_nil)) (pe_lst pa_nil) rfl)) (pss_nil))
    (pss_one (ps_expr (pe_bm PySem.F.plainAttrs_list PySem.F.slot_list_append PySem.F.type_list_append mt_append (pe_dget (un_lt hr) (pv 1) (pe_callB call_len_seq (by rfl) B.len PySem.boot_len (pa_cons (pv 2) pa_nil)) (fun _ _ => rfl)) (pa_cons (pv 2) pa_nil))))))
    (pss_one (ps_ret (pv 1))))), fun σ G0 H0 D hp hq hn => ?_⟩
  obtain ⟨hP, hz⟩ := hp
  have hlen := rings_len (σ := σ)
  have hsl : (sortedRings σ).length = (rings σ).length := (sorted_perm hP).length_eq
  refine go_seq (go_asgO (eo_dictL (R := rL rN)) (to_go ?_))
  refine go_seq (go_forS (xs := sortedRings σ) [2] (fun s : List (Int × List (List Nat)) => [.val (rL rN) σ, .own (oDL (rL rN)) s, .no])
    (fun i s => s = ((sortedRings σ).take i).foldl addL [] ∧ (s.map (·.1)).Nodup ∧ s.length ≤ i ∧ ∀ p ∈ s, p.2.length ≤ i) []
    (evi_list (ev_frz frz_L (eo_sortLam (xs := rings σ) (ev_frz frz_LL (eo_call σ (ea_cons (ev_var (i := 0) rfl) ea_nil) (And.intro hP hz))) (fun r hr => rings_ne hr) (by omega) fun js hjs hpw => ?_)))
    Wk.refl ⟨rfl, List.nodup_nil, Nat.le_refl _, fun p hp => (nomatch hp)⟩ (fun G1 sh i r s hx ps => ?_) fun s ps => ?_)
  · refine sorted_uniq hP ?_ ?_
    · have h1 := hjs.map fun j => (rings σ).getD j []
      have e : (List.range (rings σ).length).map (fun j => (rings σ).getD j []) = rings σ := by
        apply List.ext_getElem?
        intro i
        rw [List.getElem?_map]
        by_cases h : i < (rings σ).length
        · simp [h]
        · rw [List.getElem?_eq_none (by simpa using h), List.getElem?_eq_none (by omega)]
          rfl
      rw [e] at h1
      exact h1
    · rw [List.pairwise_map]
      refine List.Pairwise.imp (fun {a b} h => ?_) hpw
      unfold lexZ keyR at h
      unfold keyLe
      simp only at h
      omega
  · obtain ⟨p1, p2, p3, p4⟩ := ps
    have hi : i < (sortedRings σ).length := (List.getElem?_eq_some_iff.mp hx).1
    refine ⟨_, tg_name, ?_⟩
    have eLen : ∀ {es : List Cell}, es[2]? = some (.val (rL rN) r) → EvE T rI (tCB (rLn K) (tCons (tVar 2) tNil)) es (r.length : Int) := fun h => ev_NI (ev_len (ev_var h))
    have fin : ∀ (D : Ends) (s2 : List (Int × List (List Nat))), (s2.map (·.1)).Nodup → (∀ p ∈ s2, p.2.length ≤ i) → (∃ (j : Nat) (ys : List (List Nat)), s2[j]? = some ((r.length : Int), ys)) → addL s2 r = addL s r → Go T G1 H0 (tDrop (tBM K "list" rAppend (tDGet (tVar 1) (tCB (rLn K) (tCons (tVar 2) tNil))) (tCons (tVar 2) tNil))) (lp T G1 H0 D fun es' => ∃ s', (s' = ((sortedRings σ).take (i + 1)).foldl addL [] ∧ (s'.map (·.1)).Nodup ∧ s'.length ≤ i + 1 ∧ ∀ p ∈ s', p.2.length ≤ i + 1) ∧ es' = [.val (rL rN) σ, .own (oDL (rL rN)) s', .no]) [.val (rL rN) σ, .own (oDL (rL rN)) s2, .val (rL rN) r] := fun D s2 n2 b2 ⟨j, ys, hj⟩ e2 => by
      refine dl_app (i := 1) (j := j) rfl hj n2 (by have := b2 _ (List.mem_of_getElem? hj); dsimp only at this; omega) (eLen rfl) (ev_var (i := 2) rfl) (to_S (addL s r) ⟨?_, addL_keys p2, ?_, addL_bd p4⟩ ?_)
      · rw [List.take_add_one, hx, p1]
        show _ = List.foldl addL [] (_ ++ [r])
        rw [List.foldl_append]
        rfl
      · exact Nat.le_trans addL_len (by omega)
      · rw [addL_set hj n2, e2]
        exact .keep (.keep (.drop .nil))
    refine go_seq (go_if (eb_test (ev_notInL (i := 1) rfl (eLen rfl))) (fun hb => ?_) fun hb => ?_)
    · have hb : ∀ p ∈ s, p.1 ≠ (r.length : Int) := by
        have hb : (s.any fun p => decide (p.1 = (r.length : Int))) = false := by simpa using hb
        rw [List.any_eq_false] at hb
        intro p hp e
        exact hb p hp (by simp [e])
      refine dl_new (i := 1) rfl hb (by omega) (eLen rfl) (to_go (fin _ (s ++ [((r.length : Int), [])]) ?_ (fun p hp => ?_) ⟨s.length, [], by simp⟩ ?_))
      · rw [List.map_append, List.nodup_append]
        refine ⟨p2, by simp, fun a ha b hb' => ?_⟩
        have hb' : b = (r.length : Int) := by simpa using hb'
        subst hb'
        intro e
        obtain ⟨p, hp, e2⟩ := List.mem_map.mp ha
        exact hb p hp (e2.trans e)
      · rcases List.mem_append.mp hp with hp | hp
        · exact p4 p hp
        · rw [List.mem_singleton.mp hp]
          exact Nat.zero_le _
      · rw [addL_old hb rfl, addL_new hb]
        rfl
    · have hb : (s.any fun p => decide (p.1 = (r.length : Int))) = true := by simpa using hb
      obtain ⟨p, hp, e⟩ := List.any_eq_true.mp hb
      have e : p.1 = (r.length : Int) := by simpa using e
      obtain ⟨j, hj, e2⟩ := List.mem_iff_getElem.mp hp
      exact go_next (to_go (fin _ s p2 p4 ⟨j, p.2, by rw [← e, List.getElem?_eq_getElem hj, e2]⟩ rfl))
  · obtain ⟨p1, _⟩ := ps
    refine to_go (go_retV (i := 1) (x := s) rfl fun v G H F st fr r => ?_)
    obtain ⟨G', F', st', fr', r'⟩ := dl_out st fr r
    refine hq v G' H F' st' fr' ?_
    rw [List.take_length, byLen_fold hP] at p1
    rw [← p1]
    exact r'
end
end AO
set_option Elab.async false
set_option linter.all false
/-! AOMath3: done often, also backwards. -/
namespace AO
/-- where x stands behind t times (t any whole number) -/
def pw (σ : List Nat) (t : Int) (x : Nat) : Nat := it σ (t % (per σ x : Int)).toNat x
def pwL (σ : List Nat) (t : Int) : List Nat := (List.range σ.length).map (pw σ t)
section
variable {σ : List Nat}
theorem pw_idx_lt (x : Nat) (a : Int) : (a % (per σ x : Int)).toNat < per σ x := by
  have h0 : (0 : Int) < (per σ x : Int) := by have := per_pos (σ := σ) x; omega
  have h1 := Int.emod_nonneg a (Int.ne_of_gt h0)
  have h2 := Int.emod_lt_of_pos a h0
  omega
theorem pw_it (h : IsP σ) (t : Int) (i s : Nat) : it σ (((i : Int) + t) % (per σ s : Int)).toNat s = pw σ t (it σ i s) := by
  unfold pw
  rw [h.per_it, ← it_add, h.it_eq]
  have h0 : (0 : Int) < (per σ s : Int) := by have := per_pos (σ := σ) s; omega
  generalize hp : per σ s = p at *
  have hn : (p : Int) ≠ 0 := Int.ne_of_gt h0
  have a1 := Int.emod_nonneg ((i : Int) + t) hn
  have a2 := Int.emod_nonneg t hn
  have key : ((((i : Int) + t) % (p : Int)).toNat : Int) % (p : Int) = (((t % (p : Int)).toNat + i : Nat) : Int) % (p : Int) := by
    rw [Int.toNat_of_nonneg a1, Int.natCast_add, Int.toNat_of_nonneg a2, Int.emod_emod_of_dvd _ (Int.dvd_refl _), Int.emod_add_emod, Int.add_comm]
  omega
theorem pw_nat (h : IsP σ) (k x : Nat) : pw σ (k : Int) x = it σ k x := by
  unfold pw
  have : ((k : Int) % (per σ x : Int)).toNat = k % per σ x := by omega
  rw [this, h.it_mod]
theorem pw_lt (h : IsP σ) {x : Nat} (hx : x < σ.length) (t : Int) : pw σ t x < σ.length := h.it_lt hx _
theorem pw_eq (h : IsP σ) {a b : Int} (x : Nat) : pw σ a x = pw σ b x ↔ a % (per σ x : Int) = b % (per σ x : Int) := by
  unfold pw
  have h0 : (0 : Int) < (per σ x : Int) := by have := per_pos (σ := σ) x; omega
  have a1 := Int.emod_nonneg a (Int.ne_of_gt h0)
  have b1 := Int.emod_nonneg b (Int.ne_of_gt h0)
  rw [h.it_eq, Nat.mod_eq_of_lt (pw_idx_lt x a), Nat.mod_eq_of_lt (pw_idx_lt x b)]
  omega
theorem per_pw (h : IsP σ) (t : Int) (x : Nat) : per σ (pw σ t x) = per σ x := h.per_it _ x
theorem pw_add (h : IsP σ) (a b : Int) (x : Nat) : pw σ (a + b) x = pw σ a (pw σ b x) := by
  have h0 : (0 : Int) < (per σ x : Int) := by have := per_pos (σ := σ) x; omega
  have b1 := Int.emod_nonneg b (Int.ne_of_gt h0)
  have e := pw_it h a (b % (per σ x : Int)).toNat x
  rw [show it σ (b % (per σ x : Int)).toNat x = pw σ b x from rfl] at e
  rw [← e]
  unfold pw
  congr 1
  rw [Int.toNat_of_nonneg b1, Int.emod_add_emod, Int.add_comm]
theorem pwL_length (t : Int) : (pwL σ t).length = σ.length := by simp [pwL]
theorem pwL_ap (t : Int) {x : Nat} (hx : x < σ.length) : ap (pwL σ t) x = pw σ t x := by
  rw [ap_lt (by rw [pwL_length]; exact hx)]
  simp [pwL]
theorem pwL_get (t : Int) {x : Nat} (hx : x < σ.length) : (pwL σ t)[x]? = some (pw σ t x) := by simp [pwL, hx]
/-- every thing lies in some ring -/
theorem in_ring (h : IsP σ) {x : Nat} (hx : x < σ.length) : ∃ r ∈ rings σ, x ∈ r := by
  obtain ⟨s, hs, h1, h2⟩ := ex_min h x
  exact ⟨orb σ s, (mem_rings h).mpr ⟨s, orb_lt h hx h1, hs, rfl⟩, h2⟩
theorem isP_of {xs : List Nat} (hl : ∀ x ∈ xs, x < xs.length) (hn : xs.Nodup) : IsP xs := by
  unfold IsP
  refine (List.perm_ext_iff_of_nodup hn List.nodup_range).mpr fun x => ⟨fun hx => List.mem_range.mpr (hl x hx), fun hx => ?_⟩
  refine Classical.byContradiction fun hne => ?_
  have h1 : ∀ y ∈ xs, y ∈ (List.range xs.length).erase x := fun y hy => (List.mem_erase_of_ne (fun (e : y = x) => hne (e ▸ hy))).mpr (List.mem_range.mpr (hl y hy))
  have h2 := nodup_le hn h1
  rw [List.length_erase_of_mem hx, List.length_range] at h2
  have := List.mem_range.mp hx
  omega
theorem pwL_P (h : IsP σ) (t : Int) : IsP (pwL σ t) := by
  refine isP_of (fun x hx => ?_) ?_
  · rw [pwL_length]
    obtain ⟨y, hy, rfl⟩ := List.mem_map.mp hx
    exact pw_lt h (List.mem_range.mp hy) t
  · unfold pwL
    rw [List.nodup_iff_pairwise_ne, List.pairwise_map]
    refine List.Pairwise.imp_of_mem (R := (· < ·)) ?_ List.pairwise_lt_range
    intro a b _ _ hab e
    have e2 : pw σ (-t) (pw σ t a) = pw σ (-t) (pw σ t b) := by rw [e]
    rw [← pw_add h, ← pw_add h, Int.add_left_neg] at e2
    have z : ∀ x, pw σ 0 x = x := fun x => by
      rw [show (0 : Int) = ((0 : Nat) : Int) from rfl, pw_nat h]
      rfl
    rw [z, z] at e2
    omega
end
/-- one behind another: l's least common multiple, as back reckons it -/
def lcmF (ls : List Nat) : Nat := ls.foldl (fun a l => a / Nat.gcd a l * l) 1
def backN (σ : List Nat) : Nat := lcmF ((rings σ).map List.length)
theorem lcm_step (a l : Nat) : a / Nat.gcd a l * l = Nat.lcm a l := by
  unfold Nat.lcm
  exact Nat.div_mul_right_comm (Nat.gcd_dvd_left a l) l
end AO
set_option Elab.async false
set_option linter.all false
set_option maxRecDepth 100000
set_option maxHeartbeats 4000000
/-! AOW3: what is an order, and the rings of it. -/
namespace AO
open PySem L2
def isOrd (xs : List Nat) : Bool := decide (xs.length ≤ 60) && decide (sortN xs = List.range xs.length)
theorem isOrd_iff {xs : List Nat} : isOrd xs = true ↔ xs.length ≤ 60 ∧ IsP xs := by
  unfold isOrd IsP
  rw [Bool.and_eq_true, decide_eq_true_iff, decide_eq_true_iff, sortN_range]
theorem map_true {α : Type} (xs : List α) : ((xs.filter fun _ => true).map fun _ => true).all id = true := by
  simp
section
variable {P : Program} {w : World} {K : PySem.W.Frag} {mg : Str → Option Value} {base : Heap} {T : List (Addr × Str)}
theorem eb_yes {es : List Cell} : EvB T tYes es true := fun G0 H0 G H σ F m Q q => q G H (Step.refl m.m)
abbrev OkO (σ : List Nat) : Prop := IsP σ ∧ σ.length ≤ 60
abbrev spWhole (T : List (Addr × Str)) : Sp := spE T (fun i : Int => [.val rI i]) (fun _ => True) rB fun _ => true
abbrev spIsOrd (T : List (Addr × Str)) : Sp := spE T (fun xs : List Nat => [.val (rL rN) xs]) (fun xs => xs.length ≤ 1000) rB isOrd
abbrev spChkO (T : List (Addr × Str)) : Sp := spE T (fun xs : List Nat => [.val (rL rN) xs]) OkO rU fun _ => ()
abbrev spChkT (T : List (Addr × Str)) : Sp := spE T (fun t : Int => [.val rI t, .val rU ()]) (fun _ => True) rU fun _ => ()
abbrev spRIn (T : List (Addr × Str)) : Sp := spO T (fun σ : List Nat => [.val (rL rN) σ]) OkO (oLL rN) rings
abbrev spBack (T : List (Addr × Str)) : Sp := spE T (fun σ : List Nat => [.val (rL rN) σ]) OkO rN backN
abbrev spCommon (T : List (Addr × Str)) : Sp := spE T (fun i : Nat × Nat => [.val rN i.1, .val rN i.2]) (fun _ => True) rN fun i => Nat.gcd i.1 i.2
abbrev spDone (T : List (Addr × Str)) : Sp := spO T (fun i : List Nat × Int => [.val (rL rN) i.1, .val rI i.2]) (fun i => OkO i.1) (oL rN) fun i => pwL i.1 i.2
theorem lcm_take_lt {ls : List Nat} (h : ∀ l ∈ ls, 0 < l ∧ l < 64) : ∀ i, 0 < lcmF (ls.take i) ∧ lcmF (ls.take i) ≤ 64 ^ i := by
  intro i
  induction i with
  | zero => exact ⟨by simp [lcmF], by simp [lcmF]⟩
  | succ i ih =>
    by_cases hi : i < ls.length
    · have e : lcmF (ls.take (i + 1)) = Nat.lcm (lcmF (ls.take i)) ls[i] := by
        rw [List.take_add_one, List.getElem?_eq_getElem hi]
        show (ls.take i ++ [ls[i]]).foldl _ 1 = _
        rw [List.foldl_append]
        exact lcm_step _ _
      obtain ⟨h1, h2⟩ := h _ (List.getElem_mem hi)
      rw [e]
      refine ⟨Nat.lcm_pos ih.1 h1, ?_⟩
      have : Nat.lcm (lcmF (ls.take i)) ls[i] ≤ lcmF (ls.take i) * ls[i] := Nat.le_of_dvd (Nat.mul_pos ih.1 h1) (Nat.lcm_dvd_mul _ _)
      refine Nat.le_trans this ?_
      rw [Nat.pow_succ]
      exact Nat.mul_le_mul ih.2 (by omega)
    · rw [List.take_of_length_le (by omega)]
      rw [List.take_of_length_le (by omega)] at ih
      exact ⟨ih.1, Nat.le_trans ih.2 (Nat.pow_le_pow_right (by omega) (by omega))⟩
theorem sc_is_whole : FnScope ["thing"] ["thing"] (defScope s_is_whole) := ⟨rfl, rfl, rfl, by decide +kernel, rfl, by decide +kernel, by decide +kernel⟩
theorem ok_is_whole {f : Addr} {fd : FuncData} (Df : Def K mg "is_whole" s_is_whole ["thing"] f fd) (B : Bn mg) :
    Pr P w K mg base CX0 (0 + 1) "is_whole" ["thing"] (spWhole T) := by
  refine fn_E Df sc_is_whole (fun _ => rfl) fun cdv A outer s H E hr => ⟨_, (pss_one (ps_ret (pe_and (pe_callB call_isi (by rfl) B.isinstance (by decide +kernel) (pa_cons (pv 0) (pa_cons (pe_bltn (v := .ty "int") (by rfl) B.int PyProof.Rows.boot_int rfl) pa_nil))) (pe_one (pe_not (pe_callB call_isi (by rfl) B.isinstance (by decide +kernel) (pa_cons (pv 0) (pa_cons (pe_bltn (v := .ty "bool") (by rfl) B.bool PyProof.Rows.boot_bool rfl) pa_nil)))))))), fun i G0 H0 D hp hq hn => ?_⟩
  exact go_ret (ev_andV (ev_isi (b := true) (ev_var (i := 0) rfl) ty_I (.ty "int") (kit_ty (by decide +kernel))) fun _ => ev_notV (ev_isi (b := false) (ev_var (i := 0) rfl) ty_I (.ty "bool") (kit_ty (by decide +kernel)))) hq
theorem sc_is_order : FnScope ["thing", "one"] ["thing"] (defScope s_is_order) := ⟨rfl, rfl, rfl, by decide +kernel, rfl, by decide +kernel, by decide +kernel⟩
theorem ok_is_order {f : Addr} {fd : FuncData} (Df : Def K mg "is_order" s_is_order ["thing"] f fd) (B : Bn mg) (h_is_whole : Pr P w K mg base CX0 1 "is_whole" ["thing"] (spWhole T)) :
    Pr P w K mg base CX0 (1 + 1) "is_order" ["thing"] (spIsOrd T) := by
  obtain ⟨tM, hMOST⟩ := B.MOST
  refine fn_E Df sc_is_order (fun _ => rfl) fun cdv A outer s H E hr => ⟨_, (pss_cons (ps_if (PW.pt (pw_or (pt_not (pt_val (pe_callB call_isi (by rfl) B.isinstance (by decide +kernel) (pa_cons (pv 0) (pa_cons (pe_bltn (v := .ty "list") (by rfl) B.list PyProof.Rows.boot_list rfl) pa_nil))))) (pw_or (pt_cmpR op_gt (pe_callB call_len_seq (by rfl) B.len PySem.boot_len (pa_cons (pv 0) pa_nil)) (pe_glob (v := .int 60) rfl hMOST ⟨_, rfl⟩) (nomark _)) (pw_or1 (pt_not (pt_val (pe_callB (cr_all rfl) (by rfl) B.all (by decide +kernel) (pa_cons (pe_lc (g := (gName 1)) (tt := tYes) (te := (tCall _ [] _ (tCons (tVar 1) tNil))) (own := [("one", 1)]) rfl sc_is_order.nd (pi_list (pv 0)) (blkOk_by (N := ["thing", "one"]) (sc := defScope s_is_order) (by decide +kernel)) (fun _ _ _ _ _ => (pg_name (i := 1) sc_is_order.nd rfl (.inl rfl) (.inr rfl))) (fun _ _ _ _ _ => pts_nil) (fun _ _ _ _ _ => (pe_pr h_is_whole (hr.mono (by decide)) (pa_cons (pv 1) pa_nil)))) pa_nil)))))))) (pss_one (ps_ret pe_bl)) (pss_nil))
    (pss_one (ps_ret (pe_cmpR (op_eqD (un_lt64 hr)) (pe_callB cr_sortedI (by rfl) B.sorted (by decide +kernel) (pa_cons (pv 0) pa_nil)) (pe_listRg rfl (by rfl) B.list (prg_1 (by rfl) B.range (pe_callB call_len_seq (by rfl) B.len PySem.boot_len (pa_cons (pv 0) pa_nil)))) (nomark _))))), fun xs G0 H0 D hp hq hn => ?_⟩
  refine go_seq (go_if (eb_or (eb_not (eb_B (ev_isi (b := true) (ev_var (i := 0) (x := xs) rfl) ty_L (.ty "list") (kit_ty (by decide +kernel))))) fun _ =>
    eb_or (eb_test (ev_gtN (ev_len (ev_var (i := 0) rfl)) (ev_k (n := 60) rfl))) fun _ => eb_not (eb_B (ev_is (ev_all (ev_frz frz_L (ev_lc (S := rB) (xs := xs) (evi_list (ev_var (i := 0) rfl)) (by omega) (fun _ => true) (fun _ => true) fun i x hx =>
      ⟨_, tg_name, eb_yes, fun _ => ev_call (x : Int) (ea_cons (ev_NI (ev_var (i := 1) rfl)) ea_nil) trivial⟩))) (map_true xs)))) (fun hb => ?_) fun hb => ?_)
  · have hb : 60 < xs.length := by simpa using hb
    refine go_ret (ev_bl (b := false)) fun v G H st r => hq v G H st ?_
    have : isOrd xs = false := by
      unfold isOrd
      rw [decide_eq_false (by omega)]
      rfl
    rw [this]
    exact r
  · have hb : xs.length ≤ 60 := by simpa using hb
    refine go_next (to_go (go_ret (ev_eqD dt_LN (ev_frz frz_L (eo_sortedN (ev_var (i := 0) rfl))) (ev_frz frz_L (eo_listRg (ev_len (ev_var (i := 0) rfl)) (by omega)))) fun v G H st r => hq v G H st ?_))
    have : isOrd xs = decide (sortN xs = List.range xs.length) := by
      unfold isOrd
      rw [decide_eq_true hb]
      rfl
    rw [this]
    exact r
theorem sc_check_order : FnScope ["order"] ["order"] (defScope s_check_order) := ⟨rfl, rfl, rfl, by decide +kernel, rfl, by decide +kernel, by decide +kernel⟩
theorem ok_check_order {f : Addr} {fd : FuncData} (Df : Def K mg "check_order" s_check_order ["order"] f fd) (B : Bn mg) (h_is_order : Pr P w K mg base CX0 2 "is_order" ["thing"] (spIsOrd T)) :
    Pr P w K mg base CX0 (2 + 1) "check_order" ["order"] (spChkO T) := by
  refine fn_E Df sc_check_order (fun _ => rfl) fun cdv A outer s H E hr => ⟨_, (pss_one (ps_if (pt_not (pt_val (pe_pr h_is_order (hr.mono (by decide)) (pa_cons (pv 0) pa_nil)))) (pss_one (ps_dead)) (pss_nil))), fun xs G0 H0 D hp hq hn => ?_⟩
  refine go_if (eb_not (eb_B (ev_call xs (ea_cons (ev_var (i := 0) rfl) ea_nil) (show xs.length ≤ 1000 from by have := hp.2; omega)))) (fun hb => ?_) fun hb => ?_
  · rw [isOrd_iff.mpr ⟨hp.2, hp.1⟩] at hb
    cases hb
  · exact go_next fun G H σ F m => hn σ H (hq .non G H m.st rfl)
theorem sc_check_times : FnScope ["times", "least"] ["times", "least"] (defScope s_check_times) := ⟨rfl, rfl, rfl, by decide +kernel, rfl, by decide +kernel, by decide +kernel⟩
theorem ok_check_times {f : Addr} {fd : FuncData} (Df : Def K mg "check_times" s_check_times ["times", "least"] f fd) (B : Bn mg) (h_is_whole : Pr P w K mg base CX0 1 "is_whole" ["thing"] (spWhole T)) :
    Pr P w K mg base CX0 (1 + 1) "check_times" ["times", "least"] (spChkT T) := by
  refine fn_E Df sc_check_times (fun _ => rfl) fun cdv A outer s H E hr => ⟨_, (pss_one (ps_if (PW.pt (pw_or (pt_not (pt_val (pe_pr h_is_whole (hr.mono (by decide)) (pa_cons (pv 0) pa_nil)))) (pw_or1 (PW.pt (pw_and (pt_cmpR op_notN (pv 1) pe_non (nomark _)) (pw_and1 (pt_cmpR op_lt (pv 0) (pv 1) (nomark _)))))))) (pss_one (ps_dead)) (pss_nil))), fun t G0 H0 D hp hq hn => ?_⟩
  refine go_if (b := false) (eb_or (a := false) (b := false) (eb_not (eb_B (ev_call t (ea_cons (ev_var (i := 0) rfl) ea_nil) trivial))) fun _ => eb_and (a := false) (b := false) (eb_test (ev_op (R := rU) (S := rU) (x := ()) (y := ()) (ev_var (i := 1) rfl) ev_non fun G H v w' Q m rv rw' q => ⟨rw', q _ G H (Step.refl m) (by rw [show v = .non from rv]; rfl)⟩)) fun h => by cases h) (fun hb => by cases hb) fun hb => ?_
  exact go_next fun G H σ F m => hn σ H (hq .non G H m.st rfl)
theorem sc_rings_in : FnScope ["order"] ["order"] (defScope s_rings_in) := ⟨rfl, rfl, rfl, by decide +kernel, rfl, by decide +kernel, by decide +kernel⟩
theorem ok_rings_in {f : Addr} {fd : FuncData} (Df : Def K mg "rings_in" s_rings_in ["order"] f fd) (B : Bn mg) (h_check_order : Pr P w K mg base CX0 3 "check_order" ["order"] (spChkO T)) (h_rings_of : Pr P w K mg base CX0 1 "rings_of" ["order"] (spRings T)) :
    Pr P w K mg base CX0 (3 + 1) "rings_in" ["order"] (spRIn T) := by
  refine fn_O Df sc_rings_in (fun _ => rfl) fun cdv A outer s H E hr => ⟨_, (pss_cons (ps_expr (pe_pr h_check_order (hr.mono (by decide)) (pa_cons (pv 0) pa_nil)))
    (pss_one (ps_ret (pe_pr h_rings_of (hr.mono (by decide)) (pa_cons (pv 0) pa_nil))))), fun xs G0 H0 D hp hq hn => ?_⟩
  refine go_seq (go_drop (ev_call xs (ea_cons (ev_var (i := 0) rfl) ea_nil) hp) (to_go ?_))
  exact go_retO (eo_call xs (ea_cons (ev_var (i := 0) rfl) ea_nil) ⟨hp.1, by have := hp.2; omega⟩) hq
theorem sc_back : FnScope ["order", "found", "ring"] ["order"] (defScope s_back) := ⟨rfl, rfl, rfl, by decide +kernel, rfl, by decide +kernel, by decide +kernel⟩
theorem ok_back {f : Addr} {fd : FuncData} (Df : Def K mg "back" s_back ["order"] f fd) (B : Bn mg) (h_check_order : Pr P w K mg base CX0 3 "check_order" ["order"] (spChkO T)) (h_rings_of : Pr P w K mg base CX0 1 "rings_of" ["order"] (spRings T)) (h_common : Pr P w K mg base CX0 1 "common" ["one", "other"] (spCommon T)) :
    Pr P w K mg base CX0 (3 + 1) "back" ["order"] (spBack T) := by
  refine fn_E Df sc_back (fun _ => rfl) fun cdv A outer s H E hr => ⟨_, (pss_cons (ps_expr (pe_pr h_check_order (hr.mono (by decide)) (pa_cons (pv 0) pa_nil)))
    (pss_cons (ps_set (i := 1) sc_back.nd rfl (.inl rfl) pe_int)
    (pss_cons (ps_for PassesOwn.never rfl (pi_list (pe_pr h_rings_of (hr.mono (by decide)) (pa_cons (pv 0) pa_nil))) (pg_name (i := 2) sc_back.nd rfl (.inl rfl)) (pss_one (ps_set (i := 1) sc_back.nd rfl (.inl rfl) (pe_op op_mulB (pe_op op_fdivW (pv 1) (pe_pr h_common (hr.mono (by decide)) (pa_cons (pv 1) (pa_cons (pe_callB call_len_seq (by rfl) B.len PySem.boot_len (pa_cons (pv 2) pa_nil)) pa_nil)))) (pe_callB call_len_seq (by rfl) B.len PySem.boot_len (pa_cons (pv 2) pa_nil))))))
    (pss_one (ps_ret (pv 1)))))), fun xs G0 H0 D hp hq hn => ?_⟩
  have hls : ∀ l ∈ (rings xs).map List.length, 0 < l ∧ l < 64 := fun l hl => by
    obtain ⟨r, hr, rfl⟩ := List.mem_map.mp hl
    have := ring_len hp.1 hr
    have := hp.2
    omega
  refine go_seq (go_drop (ev_call xs (ea_cons (ev_var (i := 0) rfl) ea_nil) hp) (to_go ?_))
  refine go_seq (go_asg (ev_k (n := 1) rfl) (to_go ?_))
  refine go_seq (go_forS (xs := rings xs) [2] (fun s : Nat => [.val (rL rN) xs, .val rN s, .no]) (fun i s => s = lcmF (((rings xs).map List.length).take i)) 1
    (evi_list (ev_frz frz_LL (eo_call xs (ea_cons (ev_var (i := 0) rfl) ea_nil) (And.intro hp.1 (show xs.length ≤ 70 from by have := hp.2; omega))))) Wk.refl rfl (fun G1 sh i r s hx ps => ?_) fun s ps => ?_)
  · refine ⟨_, tg_name, ?_⟩
    have hi : i < (rings xs).length := (List.getElem?_eq_some_iff.mp hx).1
    have hl := rings_len (σ := xs)
    have hz := hp.2
    obtain ⟨hb1, hb2⟩ := lcm_take_lt hls i
    rw [← ps] at hb1 hb2
    have hrl := hls r.length (List.mem_map.mpr ⟨r, List.mem_of_getElem? hx, rfl⟩)
    have hg : 0 < Nat.gcd s r.length := Nat.gcd_pos_of_pos_left _ hb1
    have hg2 : Nat.gcd s r.length ≤ r.length := Nat.gcd_le_right _ hrl.1
    have hs : s < 2 ^ 400 := by
      refine Nat.lt_of_le_of_lt hb2 (Nat.lt_of_le_of_lt (Nat.pow_le_pow_right (by omega) (show i ≤ 60 by omega)) (by decide))
    refine go_asg (ev_mulN (ev_divN (ev_var (i := 1) rfl) (ev_call (s, r.length) (ea_cons (ev_var (i := 1) rfl) (ea_cons (ev_len (ev_var (i := 2) rfl)) ea_nil)) trivial) hg ?_) (ev_len (ev_var (i := 2) rfl)) ?_) (to_S (s / Nat.gcd s r.length * r.length) ?_ (.keep (.keep (.drop .nil))))
    · exact Nat.lt_of_le_of_lt (Nat.log2_le_self _) (show Nat.gcd s r.length < 9000 by omega)
    · exact mulok_nat (a := 400) (b := 6) (Nat.lt_of_le_of_lt (Nat.div_le_self _ _) hs) (by omega) (by omega) (by omega) (by omega)
    · rw [List.take_add_one, List.getElem?_map, hx]
      show _ = (_ ++ [r.length]).foldl _ 1
      rw [List.foldl_append, ps]
      rfl
  · refine to_go (go_ret (ev_var (i := 1) rfl) fun v G H st r => hq v G H st ?_)
    have e : s = backN xs := by
      rw [ps]
      unfold backN
      rw [List.take_of_length_le (by simp)]
    rw [← e]
    exact r
end
end AO
set_option Elab.async false
set_option linter.all false
set_option maxRecDepth 100000
set_option maxHeartbeats 4000000
/-! AOW4: an order done often. -/
namespace AO
open PySem L2
/-- what is filled in so far -/
def Fill (σ : List Nat) (t : Int) (i j : Nat) (found : List Nat) : Prop := found.length = σ.length ∧ ∀ x, x < σ.length → ((∃ r ∈ (rings σ).take i, x ∈ r) ∨ ∃ k r, k < j ∧ (rings σ)[i]? = some r ∧ r[k]? = some x) → found.getD x 0 = pw σ t x
theorem fill_set {σ found : List Nat} {t : Int} {i j : Nat} {r : List Nat} {x : Nat} (h : Fill σ t i j found) (hr : (rings σ)[i]? = some r) (hx : r[j]? = some x) (hl : x < σ.length) : Fill σ t i (j + 1) (found.set x (pw σ t x)) := by
  refine ⟨by rw [List.length_set]; exact h.1, fun y hy hh => ?_⟩
  rw [getD_set (by rw [h.1]; exact hl)]
  by_cases e : y = x
  · rw [if_pos e, e]
  · rw [if_neg e]
    refine h.2 y hy ?_
    rcases hh with hh | ⟨k, r', hk, h1, h2⟩
    · exact .inl hh
    · refine .inr ⟨k, r', ?_, h1, h2⟩
      by_cases ek : k = j
      · subst ek
        rw [hr] at h1
        cases h1
        rw [hx] at h2
        cases h2
        exact absurd rfl e
      · omega
theorem fill_next {σ found : List Nat} {t : Int} {i : Nat} {r : List Nat} (h : Fill σ t i r.length found) (hr : (rings σ)[i]? = some r) : Fill σ t (i + 1) 0 found := by
  refine ⟨h.1, fun y hy hh => h.2 y hy ?_⟩
  rcases hh with ⟨r', h1, h2⟩ | ⟨k, _, hk, _⟩
  · rw [List.take_add_one, hr] at h1
    rcases List.mem_append.mp h1 with h1 | h1
    · exact .inl ⟨r', h1, h2⟩
    · have : r' = r := by simpa using h1
      subst this
      obtain ⟨k, hk, e⟩ := List.mem_iff_getElem.mp h2
      exact .inr ⟨k, r', hk, hr, by rw [List.getElem?_eq_getElem hk, e]⟩
  · omega
theorem fill_end {σ found : List Nat} {t : Int} (hP : IsP σ) (h : Fill σ t (rings σ).length 0 found) : found = pwL σ t := by
  apply List.ext_getElem?
  intro x
  by_cases hx : x < σ.length
  · rw [pwL_get t hx]
    obtain ⟨r, hr, hm⟩ := in_ring hP hx
    have e := h.2 x hx (.inl ⟨r, by rw [List.take_length]; exact hr, hm⟩)
    rw [List.getD_eq_getElem?_getD, List.getElem?_eq_getElem (by rw [h.1]; exact hx)] at e
    rw [List.getElem?_eq_getElem (by rw [h.1]; exact hx)]
    exact congrArg _ e
  · rw [List.getElem?_eq_none (by rw [h.1]; omega), List.getElem?_eq_none (by rw [pwL_length]; omega)]
theorem ring_at {σ : List Nat} (hP : IsP σ) {i j : Nat} {r : List Nat} {x : Nat} (t : Int) (hr : (rings σ)[i]? = some r) (hx : r[j]? = some x) : x < σ.length ∧ r[(((j : Int) + t) % (r.length : Int)).toNat]? = some (pw σ t x) := by
  obtain ⟨s, hs, hm, rfl⟩ := (mem_rings hP).mp (List.mem_of_getElem? hr)
  have hj : j < per σ s := by
    have := (List.getElem?_eq_some_iff.mp hx).1
    rwa [orb_length] at this
  rw [orb_get hj] at hx
  cases hx
  refine ⟨hP.it_lt hs j, ?_⟩
  rw [orb_length, orb_get (pw_idx_lt s _), pw_it hP]
section
variable {P : Program} {w : World} {K : PySem.W.Frag} {mg : Str → Option Value} {base : Heap} {T : List (Addr × Str)}
theorem sc_done_often : FnScope ["order", "times", "found", "ring", "at", "thing"] ["order", "times"] (defScope s_done_often) := ⟨rfl, rfl, rfl, by decide +kernel, rfl, by decide +kernel, by decide +kernel⟩
theorem ok_done_often {f : Addr} {fd : FuncData} (Df : Def K mg "done_often" s_done_often ["order", "times"] f fd) (B : Bn mg) (h_rings_of : Pr P w K mg base CX0 1 "rings_of" ["order"] (spRings T)) :
    Pr P w K mg base CX0 (1 + 1) "done_often" ["order", "times"] (spDone T) := by
  refine fn_O Df sc_done_often (fun _ => rfl) fun cdv A outer s H E hr => ⟨_, (pss_cons (ps_set (i := 2) sc_done_often.nd rfl (.inl rfl) (pe_op op_rep (pe_lst (pa_cons pe_int pa_nil)) (pe_callB call_len_seq (by rfl) B.len PySem.boot_len (pa_cons (pv 0) pa_nil))))
    (pss_cons (ps_for PassesOwn.never rfl (pi_list (pe_pr h_rings_of (hr.mono (by decide)) (pa_cons (pv 0) pa_nil))) (pg_name (i := 3) sc_done_often.nd rfl (.inl rfl)) (pss_one (ps_for PassesOwn.never rfl (pi_enum (by rfl) B.enumerate (pa_cons (pv 3) pa_nil)) (pg_tup rfl (pgs_cons (pg_name (i := 4) sc_done_often.nd rfl (.inl rfl)) (pgs_cons (pg_name (i := 5) sc_done_often.nd rfl (.inl rfl)) pgs_nil))) (pss_one (ps_asg (pe_ix ix_list (pv 3) (pe_op op_mod (pe_op op_add (pv 4) (pv 1)) (pe_callB call_len_seq (by rfl) B.len PySem.boot_len (pa_cons (pv 3) pa_nil))) (fun _ _ => rfl)) (pg_sub (pv 2) (pv 5) set_list))))))
    (pss_one (ps_ret (pv 2))))), fun i G0 H0 D hp hq hn => ?_⟩
  obtain ⟨σ, t⟩ := i
  obtain ⟨hP, hz⟩ := hp
  dsimp only at hP hz hq ⊢
  have hrl := rings_len (σ := σ)
  refine go_seq (go_asgO (eo_rep (ev_frz frz_L (eo_lst (xs := [0]) (ea_cons (ev_k rfl) ea_nil) (by simp))) (ev_len (ev_var (i := 0) rfl)) (by omega)) (to_go ?_))
  refine go_seq (go_forS (xs := rings σ) [3] (fun s : List Nat => [.val (rL rN) σ, .val rI t, .own (oL rN) s, .no, .no, .no]) (fun i s => Fill σ t i 0 s) (List.replicate σ.length 0)
    (evi_list (ev_frz frz_LL (eo_call σ (ea_cons (ev_var (i := 0) rfl) ea_nil) (And.intro hP (show σ.length ≤ 70 by omega))))) Wk.refl ⟨by simp, fun x hx hh => ?_⟩ (fun G1 sh i r s hx ps => ?_) fun s ps => ?_)
  · rcases hh with ⟨r, h1, _⟩ | ⟨k, _, hk, _⟩
    · simp at h1
    · omega
  · refine ⟨_, tg_name, ?_⟩
    have hrr := ring_len hP (List.mem_of_getElem? hx)
    refine go_forS (xs := enumL r) [4, 5] (fun s : List Nat => [.val (rL rN) σ, .val rI t, .own (oL rN) s, .val (rL rN) r, .no, .no]) (fun j s => Fill σ t i j s) s
      (evi_enum (ev_var (i := 3) rfl)) Wk.refl ps (fun G2 sh2 j p s2 hp2 ps2 => ?_) fun s2 ps2 => ?_
    · obtain ⟨e1, e2⟩ := enumL_get hp2
      obtain ⟨k, x⟩ := p
      dsimp only at e1 e2
      subst e1
      obtain ⟨hlt, hget⟩ := ring_at hP t hx e2
      refine ⟨_, tg_tup (R := rN) (S := rN) tg_name tg_name, ?_⟩
      have hn0 := Int.emod_nonneg ((k : Int) + t) (b := (r.length : Int)) (by omega)
      refine go_setL (i := 2) (k := x) rfl (by rw [ps2.1]; exact hlt) (ev_ixL (ev_var (i := 3) rfl) (ev_IN (ev_modI (ev_addI (ev_NI (ev_var (i := 4) rfl)) (ev_var (i := 1) rfl)) (ev_NI (ev_len (ev_var (i := 3) rfl))) (by omega)) (Int.toNat_of_nonneg hn0).symm) hget) (ev_var (i := 5) rfl) (to_S (s2.set x (pw σ t x)) (fill_set ps2 hx e2 hlt) ?_)
      exact .keep (.keep (.keep (.keep (.drop (.drop .nil)))))
    · rw [enumL_length] at ps2
      exact to_S s2 (fill_next ps2 hx) (.keep (.keep (.keep (.drop (.keep (.keep .nil))))))
  · refine to_go (go_retV (i := 2) (x := s) rfl fun v G H F st fr r => hq v G H F st fr ?_)
    rw [← fill_end hP ps]
    exact r
theorem sc_done_again : FnScope ["order", "times"] ["order", "times"] (defScope s_done_again) := ⟨rfl, rfl, rfl, by decide +kernel, rfl, by decide +kernel, by decide +kernel⟩
theorem ok_done_again {f : Addr} {fd : FuncData} (Df : Def K mg "done_again" s_done_again ["order", "times"] f fd) (B : Bn mg) (h_check_order : Pr P w K mg base CX0 3 "check_order" ["order"] (spChkO T)) (h_check_times : Pr P w K mg base CX0 2 "check_times" ["times", "least"] (spChkT T)) (h_done_often : Pr P w K mg base CX0 2 "done_often" ["order", "times"] (spDone T)) :
    Pr P w K mg base CX0 (3 + 1) "done_again" ["order", "times"] (spDone T) := by
  refine fn_O Df sc_done_again (fun _ => rfl) fun cdv A outer s H E hr => ⟨_, (pss_cons (ps_expr (pe_pr h_check_order (hr.mono (by decide)) (pa_cons (pv 0) pa_nil)))
    (pss_cons (ps_expr (pe_pr h_check_times (hr.mono (by decide)) (pa_cons (pv 1) (pa_cons pe_non pa_nil))))
    (pss_one (ps_ret (pe_pr h_done_often (hr.mono (by decide)) (pa_cons (pv 0) (pa_cons (pv 1) pa_nil))))))), fun i G0 H0 D hp hq hn => ?_⟩
  refine go_seq (go_drop (ev_call i.1 (ea_cons (ev_var (i := 0) rfl) ea_nil) hp) (to_go ?_))
  refine go_seq (go_drop (ev_call i.2 (ea_cons (ev_var (i := 1) rfl) (ea_cons ev_non ea_nil)) trivial) (to_go ?_))
  exact go_retO (eo_call i (ea_cons (ev_var (i := 0) rfl) (ea_cons (ev_var (i := 1) rfl) ea_nil)) hp) hq
end
end AO
set_option Elab.async false
set_option linter.all false
set_option maxRecDepth 100000
set_option maxHeartbeats 2000000
/-! AOInt0: lists of whole numbers of any kind. -/
namespace AO
open PySem L2
/-- the list as numbers from 0 on, where it is one -/
def natL (xs : List Int) : Option (List Nat) := if xs.all (fun i => decide (0 ≤ i)) then some (xs.map Int.toNat) else none
abbrev up (ys : List Nat) : List Int := ys.map fun n : Nat => (n : Int)
theorem natL_up (ys : List Nat) : natL (up ys) = some ys := by
  unfold natL
  rw [if_pos (by rw [List.all_eq_true]; intro x hx; obtain ⟨n, _, rfl⟩ := List.mem_map.mp hx; simp), List.map_map]
  congr 1
  conv => rhs; rw [← List.map_id ys]
  apply List.map_congr_left
  intro x _
  rfl
theorem natL_some {xs : List Int} {ys : List Nat} (h : natL xs = some ys) : xs = up ys := by
  unfold natL at h
  split at h
  · rename_i hh
    have h := Option.some.inj h
    subst h
    show xs = (xs.map Int.toNat).map fun n : Nat => (n : Int)
    rw [List.map_map]
    conv => lhs; rw [← List.map_id xs]
    apply List.map_congr_left
    intro x hx
    have := of_decide_eq_true (List.all_eq_true.mp hh x hx)
    show x = ((x.toNat : Nat) : Int)
    omega
  · cases h
theorem natL_none {xs : List Int} (h : natL xs = none) : ∃ x ∈ xs, x < 0 := by
  unfold natL at h
  split at h
  · cases h
  · rename_i hh
    refine Classical.byContradiction fun hn => hh ?_
    rw [List.all_eq_true]
    intro x hx
    refine decide_eq_true (Classical.byContradiction fun hx2 => hn ⟨x, hx, by omega⟩)
theorem up_inj {a b : List Nat} (h : up a = up b) : a = b := by
  have := congrArg natL h
  rw [natL_up, natL_up] at this
  exact Option.some.inj this
def sortI (xs : List Int) : List Int := xs.mergeSort (fun a b => decide (a ≤ b))
theorem sortI_perm (xs : List Int) : (sortI xs).Perm xs := List.mergeSort_perm xs _
theorem sortI_pw (xs : List Int) : (sortI xs).Pairwise (· ≤ ·) := by
  have := List.pairwise_mergeSort (le := fun a b : Int => decide (a ≤ b)) (fun a b c h1 h2 => by simp at *; omega) (fun a b => by simp; omega) xs
  exact this.imp fun h => by simpa using h
/-- sorted, they are 0, 1, .. -/
def srt (xs : List Int) (n : Nat) : Bool := match natL xs with
  | some ys => decide (sortN ys = List.range n)
  | none => false
def isOrdI (xs : List Int) : Bool := match natL xs with
  | some ys => isOrd ys
  | none => false
theorem srt_eq (xs : List Int) (n : Nat) : decide (sortI xs = up (List.range n)) = srt xs n := by
  unfold srt
  cases h : natL xs with
  | some ys =>
    have e := natL_some h
    subst e
    have : sortI (up ys) = up (sortN ys) := sort_uniqI ((sortI_perm _).trans ((sortN_perm ys).map _).symm) (sortI_pw _) (by
      rw [List.pairwise_map]
      exact (sortN_pw ys).imp fun h => by omega)
    rw [this]
    dsimp only
    by_cases e : sortN ys = List.range n
    · rw [decide_eq_true e, decide_eq_true (show up (sortN ys) = up (List.range n) by rw [e])]
    · rw [decide_eq_false e, decide_eq_false fun z => e (up_inj z)]
  | none =>
    obtain ⟨x, hx, h0⟩ := natL_none h
    refine decide_eq_false fun e => ?_
    have hm := (sortI_perm xs).mem_iff.mpr hx
    rw [e] at hm
    obtain ⟨k, _, rfl⟩ := List.mem_map.mp hm
    omega
theorem isOrdI_eq (xs : List Int) : isOrdI xs = (decide (xs.length ≤ 60) && srt xs xs.length) := by
  unfold isOrdI srt
  cases h : natL xs with
  | some ys =>
    have e := natL_some h
    subst e
    rw [List.length_map]
    rfl
  | none => simp
theorem sub_LN {xs : List Nat} : Sub (rL rN) xs (rL rI) (up xs) := fun G v ⟨a, vs, e, hs, hl, ha⟩ => ⟨a, vs, e, hs, hl, by
  rw [vals_nat ha]
  exact of_int _⟩
theorem sub_LI {xs : List Nat} : Sub (rL rI) (up xs) (rL rN) xs := fun G v ⟨a, vs, e, hs, hl, ha⟩ => ⟨a, vs, e, hs, hl, by
  rw [vals_int ha]
  exact of_nat _⟩
end AO
set_option Elab.async false
set_option linter.all false
set_option maxRecDepth 100000
set_option maxHeartbeats 1000000
/-! AOSpecQ: promises that tell something of what comes; bits of numbers; some rules more. -/
namespace AO
universe u v
open PySem L2
abbrev bitsI (i : Int) : Nat := Builtin.Int.intBits i
theorem bits_of {i : Int} {n : Nat} (h : i.natAbs < 2 ^ n) : bitsI i ≤ n := by
  unfold bitsI Builtin.Int.intBits
  by_cases h0 : i = 0
  · simp [h0]
  · have h1 : i.natAbs ≠ 0 := fun e => h0 (Int.natAbs_eq_zero.mp e)
    have := (Nat.log2_lt h1).mpr h
    have e : (i == 0) = false := by simpa using h0
    rw [e]
    simp
    omega
theorem of_bits {i : Int} {n : Nat} (h : bitsI i ≤ n) : i.natAbs < 2 ^ n := by
  unfold bitsI Builtin.Int.intBits at h
  by_cases h0 : i = 0
  · simp [h0]
    exact Nat.pow_pos (by omega)
  · have h1 : i.natAbs ≠ 0 := fun e => h0 (Int.natAbs_eq_zero.mp e)
    have e : (i == 0) = false := by simpa using h0
    rw [e] at h
    simp at h
    exact (Nat.log2_lt h1).mp (by omega)
theorem bits_mono {i : Int} {m n : Nat} (h : bitsI i ≤ m) (h2 : m ≤ n) : bitsI i ≤ n := Nat.le_trans h h2
theorem bits_add {a b : Int} {n : Nat} (ha : bitsI a ≤ n) (hb : bitsI b ≤ n) : bitsI (a + b) ≤ n + 1 := by
  refine bits_of ?_
  have h1 := of_bits ha
  have h2 := of_bits hb
  have h3 := Int.natAbs_add_le a b
  rw [Nat.pow_succ]
  omega
theorem bits_mul {a b : Int} {m n : Nat} (ha : bitsI a ≤ m) (hb : bitsI b ≤ n) : bitsI (a * b) ≤ m + n := by
  refine bits_of ?_
  rw [Int.natAbs_mul, Nat.pow_add]
  exact Nat.mul_lt_mul'' (of_bits ha) (of_bits hb)
theorem bits_nat' {k n : Nat} (h : k < 2 ^ n) : bitsI (k : Int) ≤ n := bits_of (by simpa using h)
theorem bits_mulk {c k n : Nat} (h : c * k < 2 ^ n) : bitsI ((c : Int) * (k : Int)) ≤ n := by
  have := bits_nat' h
  rwa [Int.natCast_mul] at this
section
variable (T : List (Addr × Str))
variable {ι ρ : Type}
/-- it gives some x of which post i x is known, that is new -/
def spQ (cs : ι → List Cell) (pre : ι → Prop) (O : Own ρ) (post : ι → ρ → Prop) : Sp := fun vs H Q _ => ∃ (i : ι) (G : Hp), pre i ∧ Mid T G H ∧ HoldA G vs (cs i) ∧ ∀ x v G' H' F', post i x → Step T G H G' H' → Fresh G' H' H F' → O.r G' F' v x → Q v H'
def EvQ {α : Type} (O : Own α) (te : TE) (es : List Cell) (post : α → Prop) : Prop := ∀ (G0 H0 G H : Hp) (σ : St) (F : Nat → Hp), At T G0 H0 G H σ F es → ∀ Q : VK, (∀ x v G' H' F', post x → Step T G H G' H' → Fresh G' H' H F' → O.r G' F' v x → Q v H') → te σ H Q
end
section
variable {P : Program} {w : World} {K : PySem.W.Frag} {mg : Str → Option Value} {base : Heap} {T : List (Addr × Str)} {ι ρ : Type}
theorem fn_Q {x : Str} {st : Stmt} {ps N : List Str} {f : Addr} {fd : FuncData} {k : Nat} {cs : ι → List Cell} {pre : ι → Prop} {O : Own ρ} {post : ι → ρ → Prop} (D : Def K mg x st ps f fd) (S : FnScope N ps (defScope st)) (hl : ∀ i, (cs i).length = ps.length)
    (hb : ∀ (cdv : Value) (A : Around) (outer : List Env) (s : Shared) (H : Hp) (E : XK), Room k (A.deeper (PyProof.Rows.envOfC x (defScope st) s.heap.objs.size f cdv)) → ∃ t, PSs (cxOf CX0 P w K mg base N x (defScope st) f cdv A outer s H E).nox (defBody st) t ∧
      ∀ (i : ι) (G0 H0 : Hp) (D : Ends), pre i → (∀ x v G' H' F', post i x → Step T G0 H0 G' H' → Fresh G' H' H0 F' → O.r G' F' v x → D.rt v H') → (∀ σ H, D.rt .non H → D.nx σ H) → Go T G0 H0 t D (cs i ++ List.replicate (N.length - ps.length) .no)) :
    Pr P w K mg base CX0 (k + 1) x ps (spQ T cs pre O post) := by
  refine D.pr (D.F.ok S (fun vs H Q E ⟨i, G, _, _, ha, _⟩ => ha.length.trans (hl i)) fun cdv A outer s H vs Q E hr hsp => ?_)
  obtain ⟨i, G, hp, m, ha, q⟩ := hsp
  obtain ⟨t, ht, hg⟩ := hb cdv A outer s H E hr
  have hlen : vs.length = ps.length := ha.length.trans (hl i)
  exact ⟨t, PSs.nox ht, hg i G H _ hp q (fun _ _ h => h) G H _ _ (at_start m ha (by rw [hlen]))⟩
end
section
variable {T : List (Addr × Str)} {G0 H0 : Hp} {es es2 : List Cell} {ι ρ α β : Type} {R : Rep α} {ta tb te : TE} {cs : ι → List Cell} {pre : ι → Prop} {O : Own α} {O2 : Own β} {x : α} {y : β} {D : Ends} {K : PySem.W.Frag} {E : XK} {tA : TA}
theorem eo_callQ {post : ι → α → Prop} (i : ι) (h : EvA T tA es (cs i)) (hp : pre i) : EvQ T O (tCall (spQ T cs pre O post) [] E tA) es (post i) := fun G0 H0 G H σ F m Q q => h G0 H0 G H σ F m _ fun vs G1 H1 s1 ha => by
  rw [List.append_nil]
  exact ⟨i, G1, hp, s1.m, ha, fun x v G' H' F' p s fr r => q x v G' H' F' p (s1.trans s) (fr.back s1.h) r⟩
theorem go_asgQ {i : Nat} {post : α → Prop} (h : EvQ T O te es post) (k : ∀ x, post x → To T G0 H0 D.nx (es.set i (.own O x))) : Go T G0 H0 (tAsg te (gName i)) D es := fun G H σ F m =>
  h G0 H0 G H σ F m _ fun x v G1 H1 F1 p s1 f1 r1 => k x p G1 H1 _ _ ((m.step s1).setO i r1 f1 m.st.h fun j b o e => (m.en.sub j b o e).1)
theorem go_parQQ {i j : Nat} {p1 : α → Prop} {p2 : β → Prop} (h1 : EvQ T O ta es p1) (h2 : EvQ T O2 tb es p2) (k : ∀ x y, p1 x → p2 y → To T G0 H0 D.nx ((es.set i (.own O x)).set j (.own O2 y))) : Go T G0 H0 (tPar i j (tCons ta (tCons tb tNil))) D es := fun G H σ F m =>
  h1 G0 H0 G H σ F m _ fun x v G1 H1 F1 p s1 f1 r1 => h2 G0 H0 G1 H1 σ F (m.step s1) _ fun y w G2 H2 F2 p' s2 f2 r2 => ⟨v, w, rfl, k x y p p' G2 H2 _ _ ((((m.step s1).step s2).setO i (O.mono s2.g r1) (f1.step s2) m.st.h fun j b o e => (m.en.sub j b o e).1).setO j r2 f2 (LamX.ExtN.trans m.st.h s1.h) fun k b o e => by
      by_cases hk : k = i
      · subst hk
        rw [setF_same] at e
        exact (f1 b o e).1
      · rw [setF_ne hk] at e
        exact s1.h b o (m.en.sub k b o e).1 (m.en.sub k b o e).2.2.2.1)⟩
/-- a value and an own thing -/
theorem go_parEO {i j : Nat} (h1 : EvE T R ta es x) (h2 : EvO T O2 tb es y) (k : To T G0 H0 D.nx ((es.set i (.val R x)).set j (.own O2 y))) : Go T G0 H0 (tPar i j (tCons ta (tCons tb tNil))) D es := fun G H σ F m =>
  h1 G0 H0 G H σ F m _ fun v G1 H1 s1 r1 => h2 G0 H0 G1 H1 σ F (m.step s1) _ fun w G2 H2 F2 s2 f2 r2 => ⟨v, w, rfl, k G2 H2 _ _ ((((m.step s1).step s2).set i (R.mono s2.g r1)).setO j r2 f2 (LamX.ExtN.trans m.st.h s1.h) fun k b o e => by
      by_cases hk : k = i
      · subst hk
        rw [setF_same] at e
        cases e
      · rw [setF_ne hk] at e
        exact s1.h b o (m.en.sub k b o e).1 (m.en.sub k b o e).2.2.2.1)⟩
theorem ev_min2N {a b : Nat} (ha : EvE T rN ta es a) (hb : EvE T rN tb es b) : EvE T rN (tCB (fun xs H Q => ∃ i j, xs = [.int i, .int j] ∧ Q (.int (if j < i then j else i)) H) (tCons ta (tCons tb tNil))) es (min a b) := fun G0 H0 G H σ F m Q q => ha G0 H0 G H σ F m _ fun v G1 H1 s1 r1 => hb G0 H0 G1 H1 σ F (m.step s1) _ fun w G2 H2 s2 r2 => ⟨(a : Int), (b : Int), by rw [show v = .int (a : Int) from r1, show w = .int (b : Int) from r2], q _ G2 H2 (s1.trans s2) (by
  show V.int _ = V.int _
  congr 1
  split <;> omega)⟩
/-- 10 ** 18 and the like -/
theorem ev_powK {a b c : Int} (ha : EvE T rI ta es a) (hb : EvE T rI tb es b) (h1 : 0 ≤ b) (h2 : b ≤ 1000000) (h3 : a.natAbs < 2 ^ 64) (e : a ^ b.toNat = c) : EvE T rI (tOp (L2.rI CPow fun i j => .int (i ^ j.toNat)) ta tb) es c := ev_is (ev_powI ha hb ⟨h1, h2, h3⟩) e
end
end AO
set_option Elab.async false
set_option linter.all false
set_option maxRecDepth 100000
set_option maxHeartbeats 2000000
/-! AOExc: errors of the program's own classes: raised, met, asked for their kind. -/
namespace AO
open PySem PySem.Spec PyProof.Rows L2
section
variable {prog : Program} {w : World} {A : Around} {E : Value → Shared → Prop} {s : Shared}
/-- a list's iterator at its end, while an error is handled -/
theorem list_stops_hot {it l x1 : Addr} {n : Nat} {xs : Array Value} {Q : Option Value → Shared → Prop} (hot : HotX.HotAt A x1 s.heap) (hi : s.heap.IsListIter it l n) (hl : s.heap.IsList l xs) (hn : xs[n]? = none) (hne : x1 ≠ it)
    (hQ : ∀ h', (∀ b o, b ≠ it → s.heap.get? b = some o → h'.get? b = some o) → Q none { s with heap := h' }) : wpAny (model prog w) A (pyNext (.ref it)) Q E s := by
  obtain ⟨oi, gi, ci, di⟩ := id hi
  obtain ⟨ol, gl, _, nl, dl⟩ := hl
  obtain ⟨hh, o1, vs1, g1, d1, c1⟩ := hot
  unfold pyNext
  refine wpAny_bind (wpAny_attempt (wpAny_callSpecial?_slot (name := Str.ofString "__next__") hi.typeIs slot_listiter_next (wpAny_call_entry slot_listiter_next hi.typeIs entry_listiter_next ?_ (args_listiter_next _))))
  show wpAny _ _ (field (.ref it) 0 >>= _) _ _ _; refine wpAny_bind (wpAny_field gi di (x := .ref l) rfl ?_)
  show wpAny _ _ (if (Value.ref l == Value.none) = true then _ else _) _ _ _; rw [if_neg (show ¬ ((Value.ref l == Value.none) = true) from Bool.false_ne_true)]
  show wpAny _ _ (field (.ref it) 1 >>= _) _ _ _; refine wpAny_bind (wpAny_field gi di (x := .int n 0) rfl ?_)
  show wpAny _ _ (seqItems? (.ref l) >>= _) _ _ _; refine wpAny_bind (wpAny_seqItems gl dl ?_)
  simp only [Int.toNat_natCast, hn]; refine wpAny_bind (wpAny_rule (wpAny_bind (wpAny_setField gi di (by simp) ?_)))
  show wpAny _ _ (newExc (.type "StopIteration") [] >>= _) _ _ _; refine wpAny_bind ?_
  simp only [newExc, newTuple]; refine wpAny_bind (wpAny_newObj_type ?_ (by size_fits))
  refine wpAny_bind (m := firstArgMember _ _) (wpAny_of_eq (a := Value.none) (by first | rfl | (simp only [firstArgMember]; rfl)) (wpAny_newObj_type ?_ (by size_fits)))
  have keep : ∀ b o, b ≠ it → s.heap.get? b = some o → (s.heap.update it (Obj.mapFields (·.setIfInBounds 0 .none))).get? b = some o := fun b o hb e => (Heap.get?_update_other _ _ (Ne.symm hb)).trans e
  refine HotX.raiseNew_hot ⟨hh, o1, vs1, Heap.get?_push_of_some _ (Heap.get?_push_of_some _ (keep x1 o1 hne g1)), d1, c1⟩ (Nat.ne_of_lt (Heap.lt_size (Heap.get?_push_of_some _ (keep x1 o1 hne g1)))) (Heap.get?_push_size _ rfl) rfl (by first | (simp; done) | (simp; omega) | (simp only [Array.size_append]; simp; omega)) ?_
  refine wpAny_bind (wpAny_isInstance (T := "StopIteration") (b := true) ⟨_, Heap.get?_update_self _ (Heap.get?_push_size _ rfl) rfl, rfl⟩ isSubtype_stop (wpAny_pure (hQ _ fun b o hb e => ?_)))
  rw [Heap.get?_update_other _ _ (Nat.ne_of_gt (Heap.lt_size (Heap.get?_push_of_some _ (keep b o hb e))))]
  exact Heap.get?_push_of_some _ (Heap.get?_push_of_some _ (keep b o hb e))
end
/-- a list walked while an error is handled -/
theorem hot_walk {prog : Program} {w : World} {A : Around} {it l x1 : Addr} (h1 : l ≠ it) (h2 : x1 ≠ it) (xs : Array Value) :
    Walks prog w A it [it, l, x1] [it] xs.size (fun i v => xs[i]? = some v) (fun i h => (h.IsListIter it l i ∧ h.IsList l xs) ∧ HotX.HotAt A x1 h) := by
  have hotK : ∀ {h h' : Heap}, HotX.HotAt A x1 h → (∀ o, h.get? x1 = some o → h'.get? x1 = some o) → HotX.HotAt A x1 h' := fun {h h'} ⟨a, o, vs, b, c, d⟩ k => ⟨a, o, vs, k o b, c, d⟩
  refine ⟨fun b hb => ?_, fun i h h' st hk => ?_, fun i s Q E hi st hQ => ?_, fun s Q E st hQ => ?_, fun i s Q E st hQ => ?_⟩
  · have e := List.mem_singleton.mp hb
    subst e
    exact List.mem_cons_self ..
  · exact ⟨⟨st.1.1.at fun o e => hk it (by simp) o e, st.1.2.at fun o e => hk l (by simp) o e⟩, hotK st.2 fun o e => hk x1 (by simp) o e⟩
  · refine wpAny_pyNext_list_item st.1.1 st.1.2 (x := xs[i]) (by simp [hi]) fun h' hit hs => ?_
    have old : ∀ b o, b ≠ it → s.heap.get? b = some o → h'.get? b = some o := fun b o hb e => hs.extBut b o hb e
    exact hQ _ h' s.toks (by simp [hi]) ⟨⟨hit, st.1.2.extBut hs.extBut h1⟩, hotK st.2 fun o e => old x1 o h2 e⟩ fun b o hb e => old b o (fun z => hb (by simp [z])) e
  · exact list_stops_hot st.2 st.1.1 st.1.2 (by simp) h2 fun h' k => hQ h' s.toks fun b o hb e => k b o (fun z => hb (by simp [z])) e
  · exact wpAny_pyIter_listiter st.1.1 hQ
/-- any of a list of truth values, while an error is handled -/
theorem cr_anyH {X : Cx} (hot : L2H.HotC X) : CallR X (.builtin "any") (rAny X.K) := fun pins s σ H vs us Q I r h => by
  obtain ⟨a, bs, rfl, hs, q⟩ := h
  obtain ⟨its, rv, hl, _⟩ := I.list hs
  obtain ⟨x1, hx⟩ := hot.at I
  rw [Vals.ref1 r]
  have tr := rv.bls
  refine call_any_walk (iter_any hl.isList fun s2 e2 st hne => ?_)
  subst e2
  have x1lt : x1 < s.heap.objs.size := by
    obtain ⟨_, o, _, g, _⟩ := hx
    exact Heap.lt_size g
  refine ⟨_, _, _, _, _, _, _, rfl, hot_walk (A := X.A.in1) hne (Nat.ne_of_lt x1lt) its.toArray, ⟨st, ?_⟩, truth_bools tr, fun h' tk hk => ?_⟩
  · obtain ⟨g0, o, vs, g, d, c⟩ := hx
    exact ⟨g0, o, vs, Heap.get?_push_of_some _ g, d, c⟩
  · refine ⟨.bl (bs.any id), H, I.kept fun b o e => hk b o (fun hm => ?_) (Heap.get?_push_of_some _ e), ?_, q⟩
    · have e1 := List.mem_singleton.mp hm
      rw [e1] at e
      exact absurd (Heap.lt_size e) (Nat.lt_irrefl _)
    · show Value.bool ((List.range its.toArray.size).any _) = Value.bool (bs.any id)
      rw [← L2.any_range, tr, List.size_toArray, List.length_map]
/-- the suite of an except clause bears the error that is handled -/
theorem hot_suite {X : Cx} {a : Addr} {oe : Obj} {cls : Value} {d : Option Addr} {pn : List (Addr × Obj)} (hz : L2N.Zn cls d oe) (hf : ∃ vs, oe.data = .fields vs) : L2H.HotC (X.suite a ((a, oe) :: pn)) := by
  obtain ⟨vs, hv⟩ := hf
  exact ⟨(a, oe), ⟨rfl, vs, hv, hz.2.2 vs hv⟩, List.mem_cons_self ..⟩
theorem cr_anyS {X : Cx} {a : Addr} {oe : Obj} {cls : Value} {d : Option Addr} {pn : List (Addr × Obj)} (hz : L2N.Zn cls d oe) (hf : ∃ vs, oe.data = .fields vs) : CallR (X.suite a ((a, oe) :: pn)) (.builtin "any") (rAny X.K) := cr_anyH (hot_suite hz hf)
/-- an own class of errors: how it is made and raised -/
structure XCl (K : PySem.W.Frag) (mg : Str → Option Value) (x : Str) (C : Addr) : Prop where
  xi : PySem.W.excIn K C [.type "ValueError", .type "Exception", .type "BaseException", .type "object"] "ValueError.__new__" = true
  g : mg x = some (.ref C)
  k : PySem.W.keepIn K (.ref C) = true
  b : PySem.W.subIn K (.ref C) (.type "BaseException") = some true
  t : PySem.W.typeIn K (.ref C) = some (.type "type")
theorem XCl.r {X : Cx} {x : Str} {C : Addr} (h : XCl X.K X.mg x C) : Raises X (.ref C) := raises_own h.b h.t
/-! ### promises of defs that raise -/
section
variable {P : Program} {w : World} {K : PySem.W.Frag} {mg : Str → Option Value} {base : Heap} {T : List (Addr × Str)} {ι ρ : Type}
/-- it raises an error of the class C i -/
def spR (T : List (Addr × Str)) (cs : ι → List Cell) (pre : ι → Prop) (C : ι → Addr) : Sp := fun vs H _ E => ∃ (i : ι) (G : Hp), pre i ∧ Mid T G H ∧ HoldA G vs (cs i) ∧ ∀ G' H', Step T G H G' H' → E (.ref (C i)) none H'
theorem fn_R {x : Str} {st : Stmt} {ps N : List Str} {f : Addr} {fd : FuncData} {k : Nat} {cs : ι → List Cell} {pre : ι → Prop} {C : ι → Addr} (D : Def K mg x st ps f fd) (S : FnScope N ps (defScope st)) (hl : ∀ i, (cs i).length = ps.length)
    (hb : ∀ (cdv : Value) (A : Around) (outer : List Env) (s : Shared) (H : Hp) (E : XK), Room k (A.deeper (PyProof.Rows.envOfC x (defScope st) s.heap.objs.size f cdv)) → ∃ t, PSs (cxOf (L2N.CX P w) P w K mg base N x (defScope st) f cdv A outer s H E) (defBody st) t ∧
      ∀ (i : ι) (G0 H0 : Hp) (D : Ends), pre i → (∀ G' H', Step T G0 H0 G' H' → E (.ref (C i)) none H') → Go T G0 H0 t D (cs i ++ List.replicate (N.length - ps.length) .no)) :
    Pr P w K mg base (L2N.CX P w) (k + 1) x ps (spR T cs pre C) := by
  refine D.pr (D.F.ok S (fun vs H Q E ⟨i, G, _, _, ha, _⟩ => ha.length.trans (hl i)) fun cdv A outer s H vs Q E hr hsp => ?_)
  obtain ⟨i, G, hp, m, ha, q⟩ := hsp
  obtain ⟨t, ht, hg⟩ := hb cdv A outer s H E hr
  have hlen : vs.length = ps.length := ha.length.trans (hl i)
  exact ⟨t, ht, hg i G H _ hp q G H _ _ (at_start m ha (by rw [hlen]))⟩
theorem passAtN {X : Cx} {W : WX} (tk : L2N.Takes X W) (σ : L2.St) : PassesAt (L2N.CX X.prog X.w) X σ (WE W σ) := fun _ _ _ e s' I c => tk e s' (L2N.XE.of_call I (fun _ _ _ h => h) c)
/-- x(e, ..) in a try's body, x a def that may raise -/
theorem pe_prS {X : Cx} {k : Nat} {x : Str} {ps : List Str} {sp : Sp} {e : Expr} {es : List Expr} {t : TA} {p pos : Pos} {W : WX} (h : Pr X.prog X.w X.K X.mg X.base (L2N.CX X.prog X.w) k x ps sp) (hr : Room k X.A) (tk : L2N.Takes X W) (ha : PA X (e :: es) t) (hg : Gl X x := by rfl) (hdb : (x == ("__debug__" : Str)) = false := by decide)
    (he : starEach (e :: es) X.env = (false, eval e X.env) :: starEach es X.env := by rfl) (hpl : (backTo pos (starEach es X.env)).any (·.1) = false := by rfl) : PE X (.Call (.Name x p) (e :: es) [] pos) (tCallS sp (WE W) t) := by
  obtain ⟨f, fd, a, b, c, d⟩ := h.ex
  exact pe_callS d hr hg a b c (fun σ => passAtN tk σ) ha hdb he hpl
end
/-- a block's rule that leans on a fact of what was met -/
theorem pss_when {X : Cx} {b : List Stmt} {p : Prop} {t : TS} (h : p → PSs X b t) : PSs X b (fun D σ H => p ∧ t D σ H) := ⟨fun pins s σ H D I hh => (h hh.1).run pins s σ H D I hh.2⟩
/-- the slot holds the address a -/
def rAd (a : Addr) : Rep Unit := ⟨fun _ v _ => v = .ref a, fun _ h => h⟩
section
variable {T : List (Addr × Str)} {G0 H0 : Hp} {es : List Cell} {ι : Type} {ta : TA} {cs : ι → List Cell} {pre : ι → Prop} {C : ι → Addr} {D : Ends} {K : PySem.W.Frag}
/-- try: f(..) / except O as e: suite, f raises -/
theorem go_tryR {i : Nat} {O : Value} {ts : Addr → Value → Option Addr → TS} {W0 : WX} (j : ι) (hA : EvA T ta es (cs j)) (hp : pre j) (hx : PySem.W.exmOne K (.ref (C j)) O = some true)
    (k : ∀ (a : Addr) (D' : Ends), D'.rt = D.rt → Go T G0 H0 (ts a (.ref (C j)) none) D' (es.set i (.val (rAd a) ()))) : Go T G0 H0 (fun D σ H => tDrop (tCallS (spR T cs pre C) (WE (wAs K O i ts W0 D)) ta) D σ H) D es := fun G H σ F m =>
  hA G0 H0 G H σ F m _ fun vs G1 H1 s1 ha => ⟨j, G1, hp, s1.m, ha, fun G2 H2 s2 => ⟨true, hx, fun _ a _ => k a { nx := fun σ' H' => D.nx (σ'.set i none) H', rt := D.rt, bk := fun σ' H' => D.bk (σ'.set i none) H', ct := fun σ' H' => D.ct (σ'.set i none) H' } rfl G2 H2 _ _ ((((m.step s1).step s2)).set i (show (rAd a).r G2 (.ref a) () from rfl)), fun z => nomatch z⟩⟩
/-- isinstance(e, c), e the error met -/
theorem ev_isE {i : Nat} {D0 a c : Addr} {b : Bool} (h : es[i]? = some (.val (rAd a) ())) (hk : PySem.W.kitOne K (.ref D0) (.ref c) = some b) : EvE T rB (tCB (rIsE K D0 a) (tCons (tVar i) (tCons (tC (.ref c)) tNil))) es b := fun G0 H0 G H σ F m Q q => by
  obtain ⟨v, hv, hr⟩ := m.val h
  obtain rfl : v = .ref a := hr
  exact ⟨_, hv, .ref c, .ref c, b, rfl, fun u hu => hu, hk, q _ G H (Step.refl m.m) rfl⟩
end
theorem takesN0 {X : Cx} : L2N.Takes X (fun _ _ _ _ => False) := fun _ _ x => by
  obtain ⟨_, _, _, _, _, _, _, _, _, _, _, _, _, _, _, _, h⟩ := x
  exact h.elim
theorem call_isE2 {X : Cx} {a D : Addr} {oe : Obj} {cls : Value} {d : Option Addr} {pn : List (Addr × Obj)} (C : ExcC X.K D) (hz : L2N.Zn cls d oe) (hf : ∃ vs, oe.data = .fields vs) (e1 : cls = .ref D) (e2 : d = none) : CallR (X.suite a ((a, oe) :: pn)) (.builtin "isinstance") (rIsE X.K D a) := by
  subst e1 e2
  exact call_isE C hz.zc hf
theorem go_when {T : List (Addr × Str)} {G0 H0 : Hp} {es : List Cell} {D : Ends} {p : Prop} {t : TS} (h : p) (k : Go T G0 H0 t D es) : Go T G0 H0 (fun D σ H => p ∧ t D σ H) D es := fun G H σ F m => ⟨h, k G H σ F m⟩
/-- the program's kinds of errors -/
inductive Err
  | bo | bt | bn | nr | ot
  deriving DecidableEq
structure EA where
  O : Addr
  BO : Addr
  BT : Addr
  BN : Addr
  NR : Addr
  OT : Addr
def Err.ad (e : EA) : Err → Addr
  | .bo => e.BO
  | .bt => e.BT
  | .bn => e.BN
  | .nr => e.NR
  | .ot => e.OT
def Err.nm : Err → Str
  | .bo => "BadOrder"
  | .bt => "BadTimes"
  | .bn => "BadNumber"
  | .nr => "NoRoot"
  | .ot => "Others"
structure ErrF (K : PySem.W.Frag) (mg : Str → Option Value) (e : EA) : Prop where
  gO : mg "OrderError" = some (.ref e.O)
  g : ∀ x : Err, mg x.nm = some (.ref (x.ad e))
  xc : ∀ x : Err, XCl K mg x.nm (x.ad e)
  ec : ∀ x : Err, ExcC K (x.ad e)
  kit : ∀ x y : Err, PySem.W.kitOne K (.ref (x.ad e)) (.ref (y.ad e)) = some (decide (x = y))
  kitV : ∀ x : Err, PySem.W.kitOne K (.ref (x.ad e)) (.type "ValueError") = some true
  ex : ∀ x : Err, PySem.W.exmOne K (.ref (x.ad e)) (.ref e.O) = some true
end AO
set_option Elab.async false
set_option linter.all false
set_option maxRecDepth 100000
set_option maxHeartbeats 4000000
/-! AOThing: strange things, by what they are. -/
namespace AO
open PySem L2
/-- what stands in a list, and what is handed in as a count -/
inductive El
  | non
  | bl (b : Bool)
  | int (i : Int)
  | str (x : Str)
  | li (xs : List Int)
  | tu (xs : List Int)
  | di
/-- what is handed in -/
inductive Th
  | el (e : El)
  | lst (xs : List El)
def elR (G : Hp) (v : V) : El → Prop
  | .non => v = .non
  | .bl b => v = .bl b
  | .int i => v = .int i
  | .str x => v = .str x
  | .li xs => (rL rI).r G v xs
  | .tu xs => (rT rI).r G v xs
  | .di => (rD rI).r G v []
def rEl : Rep El := ⟨fun G v e => elR G v e, fun {G G' v x} e h => by
  cases x with
  | li xs => exact (rL rI).mono e h
  | tu xs => exact (rT rI).mono e h
  | di => exact (rD rI).mono e h
  | _ => exact h⟩
def thR (G : Hp) (v : V) : Th → Prop
  | .el e => rEl.r G v e
  | .lst xs => (rL rEl).r G v xs
def rTh : Rep Th := ⟨fun G v x => thR G v x, fun {G G' v x} e h => by
  cases x with
  | el y => exact rEl.mono e h
  | lst xs => exact (rL rEl).mono e h⟩
/-- orders as things -/
def lstI (xs : List Int) : Th := .lst (xs.map El.int)
def lstN (xs : List Nat) : Th := lstI (up xs)
theorem all2_int {G : Hp} : ∀ {vs : List V} {xs : List Int}, All2 (rI.r G) vs xs → All2 (rEl.r G) vs (xs.map El.int)
  | _, _, .nil => .nil
  | _, _, .cons h t => .cons h (all2_int t)
theorem all2_ofint {G : Hp} : ∀ {vs : List V} {xs : List Int}, All2 (rEl.r G) vs (xs.map El.int) → All2 (rI.r G) vs xs
  | _, [], .nil => .nil
  | _, _ :: _, .cons h t => .cons h (all2_ofint t)
theorem sub_elT (e : El) : Sub rEl e rTh (.el e) := fun _ _ h => h
theorem sub_lT (xs : List El) : Sub (rL rEl) xs rTh (.lst xs) := fun _ _ h => h
theorem sub_Tl (xs : List El) : Sub rTh (.lst xs) (rL rEl) xs := fun _ _ h => h
theorem sub_LEl (xs : List Int) : Sub (rL rI) xs (rL rEl) (xs.map El.int) := fun _ _ ⟨a, vs, e, hs, hl, ha⟩ => ⟨a, vs, e, hs, hl, all2_int ha⟩
theorem sub_ofLI (xs : List Int) : Sub (rL rEl) (xs.map El.int) (rL rI) xs := fun _ _ ⟨a, vs, e, hs, hl, ha⟩ => ⟨a, vs, e, hs, hl, all2_ofint ha⟩
theorem Sub.trans {α β γ : Type} {R : Rep α} {S : Rep β} {U : Rep γ} {x : α} {y : β} {z : γ} (a : Sub R x S y) (b : Sub S y U z) : Sub R x U z := fun G v h => b G v (a G v h)
theorem sub_LIT (xs : List Int) : Sub (rL rI) xs rTh (lstI xs) := (sub_LEl xs).trans (sub_lT _)
theorem sub_LNT (xs : List Nat) : Sub (rL rN) xs rTh (lstN xs) := (sub_LN (xs := xs)).trans (sub_LIT _)
theorem sub_TLI (xs : List Int) : Sub rTh (lstI xs) (rL rI) xs := (sub_Tl _).trans (sub_ofLI xs)
theorem sub_TLN (xs : List Nat) : Sub rTh (lstN xs) (rL rN) xs := (sub_TLI _).trans (sub_LI (xs := xs))
theorem sub_IEl (i : Int) : Sub rI i rEl (.int i) := fun _ _ h => h
theorem sub_IT (i : Int) : Sub rI i rTh (.el (.int i)) := fun _ _ h => h
theorem sub_TI (i : Int) : Sub rTh (.el (.int i)) rI i := fun _ _ h => h
/-- of which built-in kind -/
def tyEl : El → String
  | .non => "NoneType"
  | .bl _ => "bool"
  | .int _ => "int"
  | .str _ => "str"
  | .li _ => "list"
  | .tu _ => "tuple"
  | .di => "dict"
def tyTh : Th → String
  | .el e => tyEl e
  | .lst _ => "list"
section
variable {T : List (Addr × Str)} {K : PySem.W.Frag}
theorem ty_El (e : El) : ∀ G H v, Mid T G H → rEl.r G v e → TyX K H v (.type (tyEl e)) := fun G H v m h => by
  cases e with
  | non =>
    rw [show v = .non from h]
    exact .base .non
  | bl b =>
    rw [show v = .bl b from h]
    exact .base (.bl b)
  | int i =>
    rw [show v = .int i from h]
    exact .base (.int i)
  | str x =>
    rw [show v = .str x from h]
    exact .base (.str x)
  | li xs => exact ty_L G H v m h
  | tu xs =>
    obtain ⟨a, vs, e, hs, _, _⟩ := (show (rT rI).r G v xs from h)
    rw [e]
    exact .base (.tup (m.ex _ _ hs))
  | di =>
    obtain ⟨a, vs, e, hs, _, _⟩ := (show (rD rI).r G v [] from h)
    rw [e]
    exact .base (.dK (m.ex _ _ hs))
theorem ty_Th (x : Th) : ∀ G H v, Mid T G H → rTh.r G v x → TyX K H v (.type (tyTh x)) := fun G H v m h => by
  cases x with
  | el e => exact ty_El e G H v m h
  | lst xs => exact ty_L (R := rEl) G H v m h
def isInt : Th → Bool
  | .el (.int _) => true
  | .el (.bl _) => true
  | _ => false
def isBool : Th → Bool
  | .el (.bl _) => true
  | _ => false
def isLst : Th → Bool
  | .el (.li _) => true
  | .lst _ => true
  | _ => false
theorem kit_int (x : Th) : PySem.W.kitOne K (.type (tyTh x)) (.type "int") = some (isInt x) := by
  cases x with
  | lst xs => exact kit_ty (show kitB "list" "int" = some false by decide +kernel)
  | el e =>
    cases e with
    | non => exact kit_ty (show kitB "NoneType" "int" = some false by decide +kernel)
    | bl b => exact kit_ty (show kitB "bool" "int" = some true by decide +kernel)
    | int i => exact kit_ty (show kitB "int" "int" = some true by decide +kernel)
    | str s => exact kit_ty (show kitB "str" "int" = some false by decide +kernel)
    | li xs => exact kit_ty (show kitB "list" "int" = some false by decide +kernel)
    | tu xs => exact kit_ty (show kitB "tuple" "int" = some false by decide +kernel)
    | di => exact kit_ty (show kitB "dict" "int" = some false by decide +kernel)
theorem kit_bool (x : Th) : PySem.W.kitOne K (.type (tyTh x)) (.type "bool") = some (isBool x) := by
  cases x with
  | lst xs => exact kit_ty (show kitB "list" "bool" = some false by decide +kernel)
  | el e =>
    cases e with
    | non => exact kit_ty (show kitB "NoneType" "bool" = some false by decide +kernel)
    | bl b => exact kit_ty (show kitB "bool" "bool" = some true by decide +kernel)
    | int i => exact kit_ty (show kitB "int" "bool" = some false by decide +kernel)
    | str s => exact kit_ty (show kitB "str" "bool" = some false by decide +kernel)
    | li xs => exact kit_ty (show kitB "list" "bool" = some false by decide +kernel)
    | tu xs => exact kit_ty (show kitB "tuple" "bool" = some false by decide +kernel)
    | di => exact kit_ty (show kitB "dict" "bool" = some false by decide +kernel)
theorem kit_list (x : Th) : PySem.W.kitOne K (.type (tyTh x)) (.type "list") = some (isLst x) := by
  cases x with
  | lst xs => exact kit_ty (show kitB "list" "list" = some true by decide +kernel)
  | el e =>
    cases e with
    | non => exact kit_ty (show kitB "NoneType" "list" = some false by decide +kernel)
    | bl b => exact kit_ty (show kitB "bool" "list" = some false by decide +kernel)
    | int i => exact kit_ty (show kitB "int" "list" = some false by decide +kernel)
    | str s => exact kit_ty (show kitB "str" "list" = some false by decide +kernel)
    | li xs => exact kit_ty (show kitB "list" "list" = some true by decide +kernel)
    | tu xs => exact kit_ty (show kitB "tuple" "list" = some false by decide +kernel)
    | di => exact kit_ty (show kitB "dict" "list" = some false by decide +kernel)
/-- a whole number -/
def isWE : El → Bool
  | .int _ => true
  | _ => false
def isWT : Th → Bool
  | .el e => isWE e
  | .lst _ => false
theorem isWT_eq (x : Th) : (isInt x && !isBool x) = isWT x := by
  cases x with
  | lst xs => rfl
  | el e => cases e <;> rfl
def elI : El → Int
  | .int i => i
  | _ => 0
theorem els_int {xs : List El} (h : xs.all isWE = true) : (xs.map elI).map El.int = xs := by
  rw [List.map_map]
  conv => rhs; rw [← List.map_id xs]
  apply List.map_congr_left
  intro x hx
  have := List.all_eq_true.mp h x hx
  cases x <;> first | rfl | cases this
/-- an order -/
def isOrdT : Th → Bool
  | .el _ => false
  | .lst xs => xs.all isWE && isOrdI (xs.map elI)
/-- what is handed in as an order here -/
def okT : Th → Prop
  | .el (.li _) => False
  | .el _ => True
  | .lst xs => xs.length ≤ 1000
theorem isOrd_up (xs : List Nat) : isOrdI (up xs) = isOrd xs := by
  unfold isOrdI
  rw [natL_up]
theorem isOrdT_lstI (xs : List Int) : isOrdT (lstI xs) = isOrdI xs := by
  show ((xs.map El.int).all isWE && isOrdI ((xs.map El.int).map elI)) = _
  have h1 : (xs.map El.int).all isWE = true := by
    rw [List.all_eq_true]
    intro x hx
    obtain ⟨i, _, rfl⟩ := List.mem_map.mp hx
    rfl
  have h2 : (xs.map El.int).map elI = xs := by
    rw [List.map_map]
    conv => rhs; rw [← List.map_id xs]
    apply List.map_congr_left
    intro x _
    rfl
  rw [h1, h2]
  rfl
theorem isOrdT_lstN (xs : List Nat) : isOrdT (lstN xs) = isOrd xs := by
  show isOrdT (lstI (up xs)) = _
  rw [isOrdT_lstI, isOrd_up]
end
/-! ### what raises -/
section
variable {T : List (Addr × Str)} {G0 H0 : Hp} {es : List Cell} {ι α : Type} {ta : TA} {ta' tb : TE} {cs : ι → List Cell} {pre : ι → Prop} {C : ι → Addr} {D : Addr} {E : XK} {R : Rep α} {x : α}
theorem ev_orL (h : EvE T R ta' es x) : EvE T R (fun σ H Q => ta' σ H Q ∨ tb σ H Q) es x := fun G0 H0 G H σ F m Q q => .inl (h G0 H0 G H σ F m Q q)
theorem thr_orR (h : Thr T tb es D E) : Thr T (fun σ H Q => ta' σ H Q ∨ tb σ H Q) es D E := fun G0 H0 G H σ F m q Q => .inr (h G0 H0 G H σ F m q Q)
theorem thr_R (j : ι) (hA : EvA T ta es (cs j)) (hp : pre j) (e : C j = D) : Thr T (tCallS (spR T cs pre C) (WE fun cls d _ H => E cls d H) ta) es D E := fun G0 H0 G H σ F m q Q => hA G0 H0 G H σ F m _ fun vs G1 H1 s1 ha => ⟨j, G1, hp, s1.m, ha, fun G2 H2 s2 => by
  rw [e]
  exact q G2 H2 (s1.trans s2)⟩
theorem thr_if {t : TT} {b : Bool} (h : EvB T t es b) (h1 : b = true → Thr T ta' es D E) (h2 : b = false → Thr T tb es D E) : Thr T (tIf t ta' tb) es D E := fun G0 H0 G H σ F m q Q => h G0 H0 G H σ F m _ fun G1 H1 s1 => by
  cases b with
  | true => exact h1 rfl G0 H0 G1 H1 σ F (m.step s1) (fun G' H' s => q G' H' (s1.trans s)) Q
  | false => exact h2 rfl G0 H0 G1 H1 σ F (m.step s1) (fun G' H' s => q G' H' (s1.trans s)) Q
theorem ev_thNon : EvE T rTh (tC .non) es (.el .non) := fun G0 H0 G H σ F m Q q => q _ G H (Step.refl m.m) rfl
theorem ev_elNon : EvE T rEl (tC .non) es .non := fun G0 H0 G H σ F m Q q => q _ G H (Step.refl m.m) rfl
theorem ev_elBl {b : Bool} : EvE T rEl (tC (.bl b)) es (.bl b) := fun G0 H0 G H σ F m Q q => q _ G H (Step.refl m.m) rfl
theorem ev_elStr {s : Str} : EvE T rEl (tC (.str s)) es (.str s) := fun G0 H0 G H σ F m Q q => q _ G H (Step.refl m.m) rfl
theorem ev_elInt {i : Int} (h : EvE T rI ta' es i) : EvE T rEl ta' es (.int i) := ev_sub h (sub_IEl i)
theorem ev_thEl {e : El} (h : EvE T rEl ta' es e) : EvE T rTh ta' es (.el e) := ev_sub h (sub_elT e)
theorem ev_thInt {i : Int} (h : EvE T rI ta' es i) : EvE T rTh ta' es (.el (.int i)) := ev_sub h (sub_IT i)
theorem ev_thLst {xs : List El} (h : EvE T (rL rEl) ta' es xs) : EvE T rTh ta' es (.lst xs) := ev_sub h (sub_lT xs)
theorem ev_thN {xs : List Nat} (h : EvE T (rL rN) ta' es xs) : EvE T rTh ta' es (lstN xs) := ev_sub h (sub_LNT xs)
theorem ev_thI {xs : List Int} (h : EvE T (rL rI) ta' es xs) : EvE T rTh ta' es (lstI xs) := ev_sub h (sub_LIT xs)
end
end AO
set_option Elab.async false
set_option linter.all false
set_option maxRecDepth 100000
set_option maxHeartbeats 4000000
/-! AOHot: a def that is handed the error that is handled; a def that is handed over and called. -/
namespace AO
open PySem PySem.Spec PyProof.Rows L2
/-- what a def promises that is handed the handled error, an object of which Z is true -/
structure FnZ (P : Program) (w : World) (K : PySem.W.Frag) (mg : Str → Option Value) (base : Heap) (k : Nat) (f : Addr) (fd : FuncData) (ps : List Str) (Z : Obj → Prop) (sp : Addr → Sp) : Prop where
  long : ∀ a vs H Q E, sp a vs H Q E → vs.length = ps.length
  goes : ∀ (p : Addr × Obj) (A : Around) (outer : List Env) (s : Shared) (H : Hp) (args : Args) (us : List Value) (vs : List V) (Q : VK) (E : XK), Z p.2 → L2H.Hot1 A p → L2H.PinOk outer H s p → L2H.RoomH k A → Env0 P w K mg base A outer s H →
    BindsTo s fd args (ps.zip us) → Vals vs us → sp p.1 vs H Q E → codeAny (model P w) A (.call (.ref f) args) (CR CX0 outer P w H s Q E) s
section
variable {P : Program} {w : World} {K : PySem.W.Frag} {mg : Str → Option Value} {base : Heap} {T : List (Addr × Str)}
theorem fn_Z {x : Str} {st : Stmt} {ps N : List Str} {f : Addr} {fd : FuncData} {k : Nat} {Z : Obj → Prop} {sp : Addr → Sp} (D : Def K mg x st ps f fd) (S : FnScope N ps (defScope st)) (hl : ∀ a vs H Q E, sp a vs H Q E → vs.length = ps.length)
    (hb : ∀ (cdv : Value) (p : Addr × Obj) (A : Around) (outer : List Env) (s : Shared) (H : Hp) (vs : List V) (Q : VK) (E : XK), Z p.2 → L2H.RoomH k (A.deeper (PyProof.Rows.envOfC x (defScope st) s.heap.objs.size f cdv)) → sp p.1 vs H Q E →
      ∃ t, PSs (L2H.cxH CX0 P w K mg base N x (defScope st) f cdv A outer s H E p) (defBody st) t ∧ t { nx := fun _ H' => Q .non H', rt := Q } (L2.start N vs) H) :
    FnZ P w K mg base (k + 1) f fd ps Z sp := by
  obtain ⟨oc, od, dV, kV, doc, pm, an, cdv, ct, osl, efd, lk, hcd, _, _⟩ := D.F.ex
  subst efd
  refine ⟨hl, fun p A outer s H args us vs Q E hz hot hpin hr e0 hbi rv hsp => ?_⟩
  have hlen : vs.length = ps.length := hl p.1 vs H Q E hsp
  have inK : K.In s.heap := PySem.W.Frag.In.keeps e0.mod.kin fun b o e => (e0.bs b o e).1
  have free : s.heap.NoLimit := Heap.NoLimit.keeps e0.mod.nolimit fun b o e => (e0.bs b o e).1
  refine codeAny_call_function hr.depth (inK _ _ lk) rfl S.co S.gen rfl (PySem.W.codeRec_of inK hcd) (hbi _ _ _ _ (wpAny_newFunctionEnv_cells S.kind (fun y hy => ?_) fun env he s1 ic => ?_))
  · rcases S.par y.1 (List.of_mem_zip hy).1 with q | q
    · exact Or.inl q
    · exact Or.inr (And.intro q (PySem.W.cellsFrom_some _ _ _ (Or.inl q)))
  · subst he
    obtain ⟨t, ht, go⟩ := hb cdv p A outer s H vs Q E hz (hr.deeper _) hsp
    have I := L2H.inv_startH (CX := CX0) (E := E) S hpin e0 hlen rv ic
    refine ⟨Heap.NoLimit.keeps free ic.toInCall.keep, codeAny_func (wpAny_mono (ht.run [] s1 _ H _ I go) (fun fl s2 r2 => ?_) fun _ _ z => z)⟩
    cases fl with
    | ret u => exact (let ⟨v, _, H2, J, r, q⟩ := r2; ⟨v, H2, J.os, J.bare, J.base, J.hok, r, q⟩)
    | next => exact (let ⟨_, H2, J, q⟩ := r2; ⟨V.non, H2, J.os, J.bare, J.base, J.hok, rfl, q⟩)
    | brk => exact (let ⟨_, _, _, q⟩ := r2; q.elim)
    | cont => exact (let ⟨_, _, _, q⟩ := r2; q.elim)
end
section
variable {X : Cx} {k i : Nat} {f : Addr} {fd : FuncData} {ps : List Str} {x : Str} {q pos : Pos} {e : Expr} {es : List Expr} {t : TA} {a : Addr} {oe : Obj} {pn : List (Addr × Obj)}
/-- x(e, ..) in an except clause's suite, x a def that is handed the error -/
theorem pe_callZ {Z : Obj → Prop} {sp : Addr → Sp} (F : FnZ X.prog X.w X.K X.mg X.base k f fd ps Z sp) (hr : Room k X.A) (hz : Z oe) (hn : ∃ vs : Array Value, oe.data = .fields vs ∧ vs[2]? = some .none) (hg : Gl X x) (hm : X.mg x = some (.ref f)) (hk : PySem.W.keepIn X.K (.ref f) = true) (hb : Binds X.K fd ps [])
    (ha : PA (X.suite a ((a, oe) :: pn)) (e :: es) t) (hdb : (x == ("__debug__" : Str)) = false := by decide) (he : starEach (e :: es) X.env = (false, eval e X.env) :: starEach es X.env := by rfl) (hpl : (backTo pos (starEach es X.env)).any (·.1) = false := by rfl) :
    PE (X.suite a ((a, oe) :: pn)) (.Call (.Name x q) (e :: es) [] pos) (tCall (sp a) [] E0 t) := by
  constructor
  intro pins s σ H Q I h
  refine wpAny_Call_Name_kw (ld_glob (X := X.suite a ((a, oe) :: pn)) I hg hm (PySem.W.callWith_K (h₀ := X.base) I.ok.mod.kin hk (thn (ha.run pos pins s σ H _ I h) fun us s1 hh => ?_) he hpl) hdb)
  obtain ⟨vs, H1, I1, r, hsp⟩ := hh
  rw [List.append_nil] at hsp
  refine And.intro I1.kIn ?_
  have hl : us.length = ps.length := r.length.symm.trans (F.long _ _ _ _ _ hsp)
  have b := hb s1 us I1.kIn (by rw [List.append_nil]; exact hl)
  rw [List.append_nil] at b
  have pin := I1.pin (a, oe) (List.mem_append.mpr (.inl (List.mem_cons_self ..)))
  obtain ⟨p1, p2, p3, p4, p5⟩ := pin
  refine wpAny_call (codeAny_mono (F.goes (a, oe) (X.suite a ((a, oe) :: pn)).A (X.suite a ((a, oe) :: pn)).stack s1 H1 ⟨us, []⟩ us vs Q E0 hz ⟨rfl, hn⟩ ⟨p1, p2, fun hm => (List.mem_cons.mp (I1.stkSub a hm)).elim p3 p4, p5⟩ ⟨hr.dp, hr.un⟩ I1.env0 b r hsp) fun r s' hq => ?_)
  cases r with
  | error e => exact False.elim hq
  | ok fl =>
    cases fl with
    | ret u => exact I1.after hq
    | next => exact False.elim hq
    | brk => exact False.elim hq
    | cont => exact False.elim hq
/-- isinstance(e, c), e an error that is pinned -/
theorem call_isZ {X : Cx} {a D : Addr} {oe : Obj} (C : ExcC X.K D) (hz : L2N.Zn (.ref D) none oe) (hf : ∃ vs, oe.data = .fields vs) (hp : (a, oe) ∈ X.pn) : CallR X (.builtin "isinstance") (rIsE X.K D a) := by
  intro pins s σ H xs us Q I r h
  obtain ⟨c, cv, b, rfl, hcv, hk, q⟩ := h
  obtain ⟨u1, u2, rfl, r1, r2⟩ := vals2 r
  obtain rfl : u1 = Value.ref a := r1
  obtain rfl := hcv _ r2
  have there := (I.pin (a, oe) (List.mem_append.mpr (.inl hp))).1
  have at_ : PySem.W.InstAt s.heap a oe D none := by
    obtain ⟨vs, hv⟩ := hf
    obtain ⟨oc, od, oda, osl⟩ := oe
    obtain ⟨h1, h2, _⟩ := hz
    dsimp only at h1 h2 hv
    subst h1 h2 hv
    exact ⟨there, rfl, rfl, trivial⟩
  exact PySem.W.kia_one (PySem.W.handS_kitx_exc C.hg C.hk C.hs C.hd C.ha C.hn C.ht C.hm) I.kIn at_ hk (by intro z; cases z) fun tk => ⟨.bl b, H, I.kept (t' := tk) fun _ _ z => z, rfl, q⟩
/-- the i-th slot holds a def of those told by A: each promises its own -/
def tAsk (i : Nat) (A : Addr → Sp → Prop) (E : L2.St → XK) (t : TA) : TE := fun σ H Q => ∃ f sp, σ[i]? = some (some (.ref f)) ∧ A f sp ∧ t σ H fun vs H1 => sp vs H1 Q (E σ)
structure Hd (P : Program) (w : World) (K : PySem.W.Frag) (mg : Str → Option Value) (base : Heap) (k : Nat) (f : Addr) (sp : Sp) : Prop where
  ex : ∃ (fd : FuncData) (ps : List Str), FnOk P w K mg base (L2N.CX P w) k f fd ps sp ∧ PySem.W.keepIn K (.ref f) = true ∧ Binds K fd ps []
theorem pe_ask {X : Cx} {W : WX} {A : Addr → Sp → Prop} (hA : ∀ f sp, A f sp → Hd X.prog X.w X.K X.mg X.base k f sp) (hr : Room k X.A) (tk : L2N.Takes X W) (hN : X.N[i]? = some x) (hv : Vis X.env.scope x) (ha : PA X (e :: es) t)
    (hdb : (x == ("__debug__" : Str)) = false := by decide) (hcd : (x == ("__classdict__" : Str)) = false := by decide) (he : starEach (e :: es) X.env = (false, eval e X.env) :: starEach es X.env := by rfl) (hpl : (backTo pos (starEach es X.env)).any (·.1) = false := by rfl) :
    PE X (.Call (.Name x q) (e :: es) [] pos) (tAsk i A (WE W) t) := by
  constructor
  intro pins s σ H Q I h
  obtain ⟨f, sp, hs, hf, ht⟩ := h
  obtain ⟨fd, ps, F, hk, hb⟩ := (hA f sp hf).ex
  refine wpAny_Call_Name_kw (thn ((pe_var (pos := q) hN hv hdb hcd).run pins s σ H (fun v H1 => v = .ref f ∧ H1 = H) I ⟨.ref f, hs, rfl, rfl⟩) fun u s1 hu => ?_)
  obtain ⟨v, H1, I1, r1, rfl, rfl⟩ := hu
  obtain rfl : u = Value.ref f := r1
  refine PySem.W.callWith_K (h₀ := X.base) I.ok.mod.kin hk (thn (ha.run pos pins s1 σ _ _ I1 ht) fun us s2 hh => ?_) he hpl
  obtain ⟨vs, H2, I2, r, hsp⟩ := hh
  exact ⟨I2.kIn, run_fnS F hr hb (passAtN tk σ) I2 r hsp⟩
end
end AO
set_option Elab.async false
set_option linter.all false
/-! AOMathR1: binomials and factorials, ways to weave, and how great they grow. -/
namespace AO
def fac : Nat → Nat
  | 0 => 1
  | n + 1 => (n + 1) * fac n
def binom : Nat → Nat → Nat
  | _, 0 => 1
  | 0, _ + 1 => 0
  | n + 1, k + 1 => binom n k + binom n (k + 1)
theorem fac_pos : ∀ n, 0 < fac n
  | 0 => by decide
  | n + 1 => Nat.mul_pos (Nat.succ_pos n) (fac_pos n)
theorem binom_zero (n : Nat) : binom n 0 = 1 := by cases n <;> rfl
theorem binom_gt : ∀ {n k : Nat}, n < k → binom n k = 0
  | 0, k + 1, _ => rfl
  | n + 1, k + 1, h => by
    show binom n k + binom n (k + 1) = 0
    rw [binom_gt (by omega), binom_gt (by omega)]
theorem binom_self : ∀ n : Nat, binom n n = 1
  | 0 => rfl
  | n + 1 => by
    show binom n n + binom n (n + 1) = 1
    rw [binom_self n, binom_gt (by omega)]
/-- the step by which picks reckons -/
theorem binom_step : ∀ n k : Nat, (k + 1) * binom n (k + 1) = (n - k) * binom n k
  | 0, k => by
    have : binom 0 (k + 1) = 0 := rfl
    rw [this, Nat.zero_sub, Nat.zero_mul, Nat.mul_zero]
  | n + 1, 0 => by
    have h := binom_step n 0
    show (0 + 1) * (binom n 0 + binom n 1) = (n + 1 - 0) * binom (n + 1) 0
    rw [binom_zero, binom_zero] at *
    simp at h ⊢
    omega
  | n + 1, k + 1 => by
    have h1 := binom_step n k
    have h2 := binom_step n (k + 1)
    show (k + 1 + 1) * (binom n (k + 1) + binom n (k + 1 + 1)) = (n + 1 - (k + 1)) * (binom n k + binom n (k + 1))
    rw [Nat.mul_add, h2]
    by_cases hk : k + 1 ≤ n
    · obtain ⟨d, hd⟩ : ∃ d, n = k + 1 + d := ⟨n - (k + 1), by omega⟩
      subst hd
      have e1 : k + 1 + d - (k + 1) = d := by omega
      have e2 : k + 1 + d + 1 - (k + 1) = d + 1 := by omega
      have e3 : k + 1 + d - k = d + 1 := by omega
      rw [e3] at h1
      rw [e1, e2, Nat.mul_add, ← h1]
      generalize binom (k + 1 + d) (k + 1) = x
      have a1 : (k + 1 + 1) * x = (k + 1) * x + x := Nat.succ_mul _ _
      have a2 : (d + 1) * x = d * x + x := Nat.succ_mul _ _
      omega
    · have z : binom n (k + 1) = 0 := binom_gt (by omega)
      have e2 : n - k = 0 := by omega
      have e3 : n + 1 - (k + 1) = 0 := by omega
      rw [z, e3]
      simp
theorem binom_div (n k : Nat) : binom n k * (n - k) / (k + 1) = binom n (k + 1) := by
  have h := binom_step n k
  rw [Nat.mul_comm (binom n k), ← h, Nat.mul_div_cancel_left _ (Nat.succ_pos k)]
/-- picked in turn: n things, k of them in an order -/
theorem binom_fac : ∀ (n k : Nat), k ≤ n → binom n k * fac k * fac (n - k) = fac n
  | n, 0, _ => by rw [binom_zero]; simp [fac]
  | n, k + 1, h => by
    have ih := binom_fac n k (by omega)
    have hs := binom_step n k
    obtain ⟨d, hd⟩ : ∃ d, n - k = d + 1 := ⟨n - (k + 1), by omega⟩
    have hd2 : n - (k + 1) = d := by omega
    rw [hd2]
    rw [hd] at ih hs
    show binom n (k + 1) * ((k + 1) * fac k) * fac d = fac n
    have e : fac (d + 1) = (d + 1) * fac d := rfl
    rw [e] at ih
    rw [← ih]
    calc binom n (k + 1) * ((k + 1) * fac k) * fac d = ((k + 1) * binom n (k + 1)) * fac k * fac d := by
          rw [← Nat.mul_assoc (binom n (k + 1)), Nat.mul_comm (binom n (k + 1)) (k + 1)]
      _ = ((d + 1) * binom n k) * fac k * fac d := by rw [hs]
      _ = binom n k * fac k * ((d + 1) * fac d) := by
          rw [Nat.mul_comm (d + 1) (binom n k), Nat.mul_assoc (binom n k), Nat.mul_comm (d + 1) (fac k), ← Nat.mul_assoc (binom n k), Nat.mul_assoc (binom n k * fac k)]
end AO
set_option Elab.async false
set_option linter.all false
/-! AOMathR2: ways to weave rings. -/
namespace AO
def weavesF (l s : Nat) : Nat := fac (s - 1) * l ^ (s - 1)
def begunF (l s m : Nat) : Nat := binom (m - 1) (s - 1) * weavesF l s
def groupsF (l t m : Nat) : List Nat := (List.range' 1 m).filter fun s => decide (Nat.gcd t (l * s) = s)
def wayL (l t : Nat) : Nat → List Nat
  | 0 => [1]
  | m + 1 => wayL l t m ++ [((groupsF l t (m + 1)).map fun s => begunF l s (m + 1) * (wayL l t m).getD (m + 1 - s) 0).sum]
def wayN (l t m : Nat) : Nat := (wayL l t m).getD m 0
theorem wayL_length (l t : Nat) : ∀ m, (wayL l t m).length = m + 1
  | 0 => rfl
  | m + 1 => by
    show (wayL l t m ++ [_]).length = _
    rw [List.length_append, wayL_length l t m]
    rfl
theorem wayL_get (l t : Nat) : ∀ {n m : Nat}, m ≤ n → (wayL l t n)[m]? = some (wayN l t m)
  | 0, m, h => by
    have : m = 0 := by omega
    subst this
    rfl
  | n + 1, m, h => by
    by_cases e : m = n + 1
    · subst e
      unfold wayN
      rw [List.getD_eq_getElem?_getD, List.getElem?_eq_getElem (by rw [wayL_length]; omega)]
      rfl
    · show (wayL l t n ++ [_])[m]? = _
      rw [List.getElem?_append_left (by rw [wayL_length]; omega)]
      exact wayL_get l t (by omega)
theorem mem_groups {l t m s : Nat} : s ∈ groupsF l t m ↔ 1 ≤ s ∧ s ≤ m ∧ Nat.gcd t (l * s) = s := by
  unfold groupsF
  rw [List.mem_filter, List.mem_range'_1, decide_eq_true_iff]
  constructor
  · rintro ⟨⟨h1, h2⟩, h3⟩
    exact ⟨h1, by omega, h3⟩
  · rintro ⟨h1, h2, h3⟩
    exact ⟨⟨h1, by omega⟩, h3⟩
theorem way_zero (l t : Nat) : wayN l t 0 = 1 := rfl
theorem way_succ (l t m : Nat) : wayN l t (m + 1) = ((groupsF l t (m + 1)).map fun s => begunF l s (m + 1) * wayN l t (m + 1 - s)).sum := by
  unfold wayN
  show (wayL l t m ++ [_]).getD (m + 1) 0 = _
  rw [List.getD_eq_getElem?_getD, List.getElem?_append_right (by rw [wayL_length]; omega), wayL_length, Nat.sub_self]
  show List.sum _ = _
  congr 1
  apply List.map_congr_left
  intro s hs
  have h := mem_groups.mp hs
  rw [List.getD_eq_getElem?_getD, wayL_get l t (show m + 1 - s ≤ m by omega)]
  rfl
/-- a term's greatest -/
theorem begun_bound {l s m : Nat} (h1 : 1 ≤ s) (h2 : s ≤ m) : begunF l s m * (fac (m - s) * l ^ (m - s)) = fac (m - 1) * l ^ (m - 1) := by
  unfold begunF weavesF
  have e1 := binom_fac (m - 1) (s - 1) (by omega)
  have e2 : m - 1 - (s - 1) = m - s := by omega
  rw [e2] at e1
  have e3 : l ^ (m - 1) = l ^ (s - 1) * l ^ (m - s) := by
    rw [← Nat.pow_add]
    congr 1
    omega
  rw [← e1, e3]
  generalize binom (m - 1) (s - 1) = b
  generalize fac (s - 1) = f
  generalize fac (m - s) = g
  generalize l ^ (s - 1) = x
  generalize l ^ (m - s) = y
  simp only [Nat.mul_assoc]
  congr 1
  congr 1
  rw [Nat.mul_left_comm x g y]
theorem sum_le_mul {α : Type} (f : α → Nat) (c : Nat) : ∀ (xs : List α), (∀ x ∈ xs, f x ≤ c) → (xs.map f).sum ≤ xs.length * c
  | [], _ => by simp
  | x :: xs, h => by
    rw [List.map_cons, List.sum_cons, List.length_cons, Nat.succ_mul]
    have := sum_le_mul f c xs fun y hy => h y (List.mem_cons_of_mem _ hy)
    have := h x (List.mem_cons_self ..)
    omega
theorem way_le (l t : Nat) (hl : 1 ≤ l) : ∀ m, wayN l t m ≤ fac m * l ^ m := by
  intro m
  induction m using Nat.strongRecOn with
  | _ m ih =>
    cases m with
    | zero => exact Nat.le_refl _
    | succ m =>
      rw [way_succ]
      have h1 := sum_le_mul (fun s => begunF l s (m + 1) * wayN l t (m + 1 - s)) (fac m * l ^ m) (groupsF l t (m + 1)) fun s hs => by
        obtain ⟨a, b, _⟩ := mem_groups.mp hs
        have := begun_bound (l := l) a b
        have e : m + 1 - 1 = m := rfl
        rw [e] at this
        rw [← this]
        exact Nat.mul_le_mul_left _ (ih _ (by omega))
      refine Nat.le_trans h1 ?_
      have h2 : (groupsF l t (m + 1)).length ≤ m + 1 := by
        unfold groupsF
        refine Nat.le_trans (List.length_filter_le _ _) ?_
        rw [List.length_range']
        exact Nat.le_refl _
      refine Nat.le_trans (Nat.mul_le_mul_right _ h2) ?_
      show (m + 1) * (fac m * l ^ m) ≤ (m + 1) * fac m * l ^ (m + 1)
      rw [← Nat.mul_assoc]
      exact Nat.mul_le_mul_left _ (Nat.pow_le_pow_right hl (by omega))
theorem fac_le {n : Nat} (h : n ≤ 64) : fac n ≤ 64 ^ n := by
  induction n with
  | zero => decide
  | succ n ih =>
    show (n + 1) * fac n ≤ 64 ^ (n + 1)
    rw [Nat.pow_succ, Nat.mul_comm]
    exact Nat.mul_le_mul (ih (by omega)) h
theorem way_lt {l t m : Nat} (hl : 1 ≤ l) (h1 : l ≤ 64) (h2 : m ≤ 64) : wayN l t m < 2 ^ 800 := by
  refine Nat.lt_of_le_of_lt (way_le l t hl m) ?_
  have a := fac_le h2
  have b : l ^ m ≤ 64 ^ m := Nat.pow_le_pow_left h1 m
  have c : 64 ^ m ≤ 64 ^ 64 := Nat.pow_le_pow_right (by omega) h2
  refine Nat.lt_of_le_of_lt (Nat.mul_le_mul (Nat.le_trans a c) (Nat.le_trans b c)) ?_
  have e : (64 : Nat) ^ 64 = 2 ^ 384 := by
    rw [show (64 : Nat) ^ 64 = (2 ^ 6) ^ 64 from rfl, ← Nat.pow_mul]
  rw [e, ← Nat.pow_add]
  exact Nat.pow_lt_pow_right (by omega) (by omega)
end AO
set_option Elab.async false
set_option linter.all false
set_option maxRecDepth 100000
set_option maxHeartbeats 4000000
/-! AOR1: counting roots, walked. -/
namespace AO
open PySem L2
theorem binom_le (n : Nat) : ∀ k, binom n k ≤ 2 ^ n := by
  induction n with
  | zero => intro k; cases k <;> simp [binom]
  | succ n ih =>
    intro k
    cases k with
    | zero => rw [binom_zero]; exact Nat.pow_pos (by omega)
    | succ k =>
      show binom n k + binom n (k + 1) ≤ 2 ^ (n + 1)
      have := ih k
      have := ih (k + 1)
      rw [Nat.pow_succ]
      omega
theorem binom_lt {n k : Nat} (h : n ≤ 64) : binom n k < 2 ^ 65 := Nat.lt_of_le_of_lt (binom_le n k) (Nat.pow_lt_pow_right (by omega) (by omega))
theorem fac_lt {n : Nat} (h : n ≤ 64) : fac n < 2 ^ 400 := by
  refine Nat.lt_of_le_of_lt (Nat.le_trans (fac_le h) (Nat.pow_le_pow_right (by omega) h)) ?_
  rw [show (64 : Nat) ^ 64 = (2 ^ 6) ^ 64 from rfl, ← Nat.pow_mul]
  exact Nat.pow_lt_pow_right (by omega) (by omega)
theorem pow_lt {l k : Nat} (h : l ≤ 64) (h2 : k ≤ 64) : l ^ k < 2 ^ 400 := by
  refine Nat.lt_of_le_of_lt (Nat.le_trans (Nat.pow_le_pow_left h k) (Nat.pow_le_pow_right (by omega) h2)) ?_
  rw [show (64 : Nat) ^ 64 = (2 ^ 6) ^ 64 from rfl, ← Nat.pow_mul]
  exact Nat.pow_lt_pow_right (by omega) (by omega)
theorem weaves_lt {l s : Nat} (h : l ≤ 64) (h2 : s ≤ 64) : weavesF l s < 2 ^ 800 := by
  unfold weavesF
  have := Nat.mul_lt_mul'' (fac_lt (show s - 1 ≤ 64 by omega)) (pow_lt h (show s - 1 ≤ 64 by omega))
  rwa [← Nat.pow_add] at this
theorem begun_lt {l s m : Nat} (h : l ≤ 64) (h2 : s ≤ 64) (h3 : m ≤ 64) : begunF l s m < 2 ^ 865 := by
  unfold begunF
  have := Nat.mul_lt_mul'' (binom_lt (k := s - 1) (show m - 1 ≤ 64 by omega)) (weaves_lt h h2)
  rwa [← Nat.pow_add] at this
section
variable {P : Program} {w : World} {K : PySem.W.Frag} {mg : Str → Option Value} {base : Heap} {T : List (Addr × Str)}
abbrev spPicks (T : List (Addr × Str)) : Sp := spE T (fun i : Nat × Nat => [.val rN i.1, .val rN i.2]) (fun i => i.1 ≤ 64 ∧ i.2 ≤ 64) rN fun i => binom i.1 i.2
abbrev spOrds (T : List (Addr × Str)) : Sp := spE T (fun i : Nat => [.val rN i]) (fun i => i ≤ 64) rN fac
abbrev spPower (T : List (Addr × Str)) : Sp := spE T (fun i : Nat × Nat => [.val rN i.1, .val rN i.2]) (fun i => i.1 ≤ 64 ∧ i.2 ≤ 64) rN fun i => i.1 ^ i.2
abbrev spWeaves (T : List (Addr × Str)) : Sp := spE T (fun i : Nat × Nat => [.val rN i.1, .val rN i.2]) (fun i => i.1 ≤ 64 ∧ 1 ≤ i.2 ∧ i.2 ≤ 64) rN fun i => weavesF i.1 i.2
abbrev spBegun (T : List (Addr × Str)) : Sp := spE T (fun i : Nat × Nat × Nat => [.val rN i.1, .val rN i.2.1, .val rN i.2.2]) (fun i => i.1 ≤ 64 ∧ 1 ≤ i.2.1 ∧ i.2.1 ≤ i.2.2 ∧ i.2.2 ≤ 64) rN fun i => begunF i.1 i.2.1 i.2.2
abbrev spGroups (T : List (Addr × Str)) : Sp := spO T (fun i : Nat × Nat × Nat => [.val rN i.1, .val rN i.2.1, .val rN i.2.2]) (fun i => i.1 ≤ 64 ∧ i.2.2 ≤ 64) (oL rN) fun i => groupsF i.1 i.2.1 i.2.2
abbrev spWays (T : List (Addr × Str)) : Sp := spO T (fun i : Nat × Nat × Nat => [.val rN i.1, .val rN i.2.1, .val rN i.2.2]) (fun i => 1 ≤ i.1 ∧ i.1 ≤ 64 ∧ i.2.2 ≤ 64) (oL rN) fun i => wayL i.1 i.2.1 i.2.2
theorem sc_picks : FnScope ["many", "some", "found", "one"] ["many", "some"] (defScope s_picks) := ⟨rfl, rfl, rfl, by decide +kernel, rfl, by decide +kernel, by decide +kernel⟩
theorem ok_picks {f : Addr} {fd : FuncData} (Df : Def K mg "picks" s_picks ["many", "some"] f fd) (B : Bn mg) :
    Pr P w K mg base CX0 (0 + 1) "picks" ["many", "some"] (spPicks T) := by
  refine fn_E Df sc_picks (fun _ => rfl) fun cdv A outer s H E hr => ⟨_, (pss_cons (ps_set (i := 2) sc_picks.nd rfl (.inl rfl) pe_int)
    (pss_cons (ps_for PassesOwn.never rfl (pi_range1 (by rfl) B.range (pa_cons (pv 1) pa_nil)) (pg_name (i := 3) sc_picks.nd rfl (.inl rfl)) (pss_one (ps_set (i := 2) sc_picks.nd rfl (.inl rfl) (pe_op op_fdivW (pe_op op_mulB (pv 2) (pe_op op_sub (pv 0) (pv 3))) (pe_op op_add (pv 3) pe_int)))))
    (pss_one (ps_ret (pv 2))))), fun i G0 H0 D hp hq hn => ?_⟩
  obtain ⟨n, k⟩ := i
  obtain ⟨h1, h2⟩ := hp
  dsimp only at h1 h2 hq ⊢
  refine go_seq (go_asg (ev_k (n := 1) rfl) (to_go ?_))
  refine go_seq (go_forS (xs := List.range k) [3] (fun s : Nat => [.val rN n, .val rN k, .val rN s, .no]) (fun i s => s = binom n i) 1 (evi_rng1 (ev_var (i := 1) rfl) (by omega)) Wk.refl (binom_zero n).symm (fun G1 sh i x s hx ps => ?_) fun s ps => ?_)
  · obtain ⟨rfl, hi⟩ : x = i ∧ i < k := by
      obtain ⟨h1, h2⟩ := List.getElem?_eq_some_iff.mp hx
      simp at h1 h2
      exact ⟨h2.symm, h1⟩
    subst ps
    refine ⟨_, tg_name, ?_⟩
    have hb := binom_lt (k := x) h1
    refine go_asg (ev_IN (n := binom n (x + 1)) (ev_divI (ev_mulI (ev_NI (ev_var (i := 2) rfl)) (ev_subI (ev_NI (ev_var (i := 0) rfl)) (ev_NI (ev_var (i := 3) rfl))) (mulok_bits (bits_nat' hb) (bits_of (n := 10) (by omega)) (by omega))) (ev_NI (ev_addN (ev_var (i := 3) rfl) (ev_k (n := 1) rfl))) ⟨by omega, ?_⟩) ?_) (to_S (binom n (x + 1)) rfl (.keep (.keep (.keep (.drop .nil)))))
    · have : ((x + 1 : Nat) : Int).natAbs = x + 1 := by omega
      rw [this]
      exact Nat.lt_of_le_of_lt (Nat.log2_le_self _) (by omega)
    · by_cases hxn : x ≤ n
      · have e : ((n : Int) - (x : Int)) = ((n - x : Nat) : Int) := by omega
        rw [e, ← Int.natCast_mul, ← Int.natCast_ediv, binom_div]
      · rw [binom_gt (show n < x by omega), binom_gt (show n < x + 1 by omega)]
        simp
  · rw [List.length_range] at ps
    subst ps
    exact to_go (go_ret (ev_var (i := 2) rfl) hq)
theorem sc_orders_of : FnScope ["many", "found", "one"] ["many"] (defScope s_orders_of) := ⟨rfl, rfl, rfl, by decide +kernel, rfl, by decide +kernel, by decide +kernel⟩
theorem ok_orders_of {f : Addr} {fd : FuncData} (Df : Def K mg "orders_of" s_orders_of ["many"] f fd) (B : Bn mg) :
    Pr P w K mg base CX0 (0 + 1) "orders_of" ["many"] (spOrds T) := by
  refine fn_E Df sc_orders_of (fun _ => rfl) fun cdv A outer s H E hr => ⟨_, (pss_cons (ps_set (i := 1) sc_orders_of.nd rfl (.inl rfl) pe_int)
    (pss_cons (ps_for PassesOwn.never rfl (pi_range2 (by rfl) B.range (pa_cons pe_int (pa_cons (pe_op op_add (pv 0) pe_int) pa_nil))) (pg_name (i := 2) sc_orders_of.nd rfl (.inl rfl)) (pss_one (ps_aug (i := 1) sc_orders_of.nd rfl (.inl rfl) (pv 2) ip_mulB)))
    (pss_one (ps_ret (pv 1))))), fun n G0 H0 D hp hq hn => ?_⟩
  refine go_seq (go_asg (ev_k (n := 1) rfl) (to_go ?_))
  refine go_seq (go_forS (xs := List.range' 2 (n + 1 - 2)) [2] (fun s : Nat => [.val rN n, .val rN s, .no]) (fun i s => s = fac (i + 1)) 1 (evi_rng2 (ev_k (n := 2) rfl) (ev_addN (ev_var (i := 0) rfl) (ev_k (n := 1) rfl)) (by omega) (by omega)) Wk.refl rfl (fun G1 sh i x s hx ps => ?_) fun s ps => ?_)
  · obtain ⟨rfl, hi⟩ : x = i + 2 ∧ i < n + 1 - 2 := by
      obtain ⟨h1, h2⟩ := List.getElem?_eq_some_iff.mp hx
      rw [List.getElem_range'] at h2
      simp at h1 h2
      omega
    subst ps
    refine ⟨_, tg_name, ?_⟩
    refine go_augMulN (i := 1) rfl (ev_var (i := 2) rfl) (mulok_nat (fac_lt (show i + 1 ≤ 64 by omega)) (show i + 2 < 2 ^ 10 by omega) (by omega) (by omega) (by omega)) (to_S (fac (i + 1) * (i + 2)) ?_ (.keep (.keep (.drop .nil))))
    show fac (i + 1) * (i + 2) = (i + 1 + 1) * fac (i + 1)
    rw [Nat.mul_comm]
  · rw [List.length_range'] at ps
    have e : s = fac n := by
      rw [ps]
      cases n with
      | zero => rfl
      | succ n => congr 1
    subst e
    exact to_go (go_ret (ev_var (i := 1) rfl) hq)
theorem sc_power : FnScope ["number", "often", "found", "turn"] ["number", "often"] (defScope s_power) := ⟨rfl, rfl, rfl, by decide +kernel, rfl, by decide +kernel, by decide +kernel⟩
theorem ok_power {f : Addr} {fd : FuncData} (Df : Def K mg "power" s_power ["number", "often"] f fd) (B : Bn mg) :
    Pr P w K mg base CX0 (0 + 1) "power" ["number", "often"] (spPower T) := by
  refine fn_E Df sc_power (fun _ => rfl) fun cdv A outer s H E hr => ⟨_, (pss_cons (ps_set (i := 2) sc_power.nd rfl (.inl rfl) pe_int)
    (pss_cons (ps_for PassesOwn.never rfl (pi_range1 (by rfl) B.range (pa_cons (pv 1) pa_nil)) (pg_name (i := 3) sc_power.nd rfl (.inl rfl)) (pss_one (ps_aug (i := 2) sc_power.nd rfl (.inl rfl) (pv 0) ip_mulB)))
    (pss_one (ps_ret (pv 2))))), fun i G0 H0 D hp hq hn => ?_⟩
  obtain ⟨l, k⟩ := i
  obtain ⟨h1, h2⟩ := hp
  dsimp only at h1 h2 hq ⊢
  refine go_seq (go_asg (ev_k (n := 1) rfl) (to_go ?_))
  refine go_seq (go_forS (xs := List.range k) [3] (fun s : Nat => [.val rN l, .val rN k, .val rN s, .no]) (fun i s => s = l ^ i) 1 (evi_rng1 (ev_var (i := 1) rfl) (by omega)) Wk.refl (Nat.pow_zero l).symm (fun G1 sh i x s hx ps => ?_) fun s ps => ?_)
  · have hi : i < k := by
      have := (List.getElem?_eq_some_iff.mp hx).1
      simpa using this
    subst ps
    refine ⟨_, tg_name, ?_⟩
    exact go_augMulN (i := 2) rfl (ev_var (i := 0) rfl) (mulok_nat (pow_lt h1 (show i ≤ 64 by omega)) (show l < 2 ^ 10 by omega) (by omega) (by omega) (by omega)) (to_S (l ^ i * l) (Nat.pow_succ ..).symm (.keep (.keep (.keep (.drop .nil)))))
  · rw [List.length_range] at ps
    subst ps
    exact to_go (go_ret (ev_var (i := 2) rfl) hq)
theorem sc_weaves : FnScope ["length", "size"] ["length", "size"] (defScope s_weaves) := ⟨rfl, rfl, rfl, by decide +kernel, rfl, by decide +kernel, by decide +kernel⟩
theorem ok_weaves {f : Addr} {fd : FuncData} (Df : Def K mg "weaves" s_weaves ["length", "size"] f fd) (B : Bn mg) (h_orders_of : Pr P w K mg base CX0 1 "orders_of" ["many"] (spOrds T)) (h_power : Pr P w K mg base CX0 1 "power" ["number", "often"] (spPower T)) :
    Pr P w K mg base CX0 (1 + 1) "weaves" ["length", "size"] (spWeaves T) := by
  refine fn_E Df sc_weaves (fun _ => rfl) fun cdv A outer s H E hr => ⟨_, (pss_one (ps_ret (pe_op op_mulB (pe_pr h_orders_of (hr.mono (by decide)) (pa_cons (pe_op op_sub (pv 1) pe_int) pa_nil)) (pe_pr h_power (hr.mono (by decide)) (pa_cons (pv 0) (pa_cons (pe_op op_sub (pv 1) pe_int) pa_nil)))))), fun i G0 H0 D hp hq hn => ?_⟩
  obtain ⟨l, k⟩ := i
  obtain ⟨h1, h2, h3⟩ := hp
  dsimp only at h1 h2 h3 hq ⊢
  have e1 : ∀ {es : List Cell}, es[1]? = some (.val rN k) → EvE T rN (tOp (rI0 fun i j => .int (i - j)) (tVar 1) (tC (.int 1))) es (k - 1) := fun h => ev_subN (ev_var h) (ev_k (n := 1) rfl) h2
  exact go_ret (ev_mulN (ev_call (k - 1) (ea_cons (e1 rfl) ea_nil) (show k - 1 ≤ 64 by omega)) (ev_call (l, k - 1) (ea_cons (ev_var (i := 0) rfl) (ea_cons (e1 rfl) ea_nil)) (And.intro h1 (show k - 1 ≤ 64 by omega))) (mulok_nat (fac_lt (show k - 1 ≤ 64 by omega)) (pow_lt h1 (show k - 1 ≤ 64 by omega)) (by omega) (by omega) (by omega))) hq
theorem sc_begun_with : FnScope ["length", "size", "many"] ["length", "size", "many"] (defScope s_begun_with) := ⟨rfl, rfl, rfl, by decide +kernel, rfl, by decide +kernel, by decide +kernel⟩
theorem ok_begun_with {f : Addr} {fd : FuncData} (Df : Def K mg "begun_with" s_begun_with ["length", "size", "many"] f fd) (B : Bn mg) (h_picks : Pr P w K mg base CX0 1 "picks" ["many", "some"] (spPicks T)) (h_weaves : Pr P w K mg base CX0 2 "weaves" ["length", "size"] (spWeaves T)) :
    Pr P w K mg base CX0 (2 + 1) "begun_with" ["length", "size", "many"] (spBegun T) := by
  refine fn_E Df sc_begun_with (fun _ => rfl) fun cdv A outer s H E hr => ⟨_, (pss_one (ps_ret (pe_op op_mulB (pe_pr h_picks (hr.mono (by decide)) (pa_cons (pe_op op_sub (pv 2) pe_int) (pa_cons (pe_op op_sub (pv 1) pe_int) pa_nil))) (pe_pr h_weaves (hr.mono (by decide)) (pa_cons (pv 0) (pa_cons (pv 1) pa_nil)))))), fun i G0 H0 D hp hq hn => ?_⟩
  obtain ⟨l, k, m⟩ := i
  obtain ⟨h1, h2, h3, h4⟩ := hp
  dsimp only at h1 h2 h3 h4 hq ⊢
  exact go_ret (ev_mulN (ev_call (m - 1, k - 1) (ea_cons (ev_subN (ev_var (i := 2) rfl) (ev_k (n := 1) rfl) (by omega)) (ea_cons (ev_subN (ev_var (i := 1) rfl) (ev_k (n := 1) rfl) h2) ea_nil)) (And.intro (show m - 1 ≤ 64 by omega) (show k - 1 ≤ 64 by omega))) (ev_call (l, k) (ea_cons (ev_var (i := 0) rfl) (ea_cons (ev_var (i := 1) rfl) ea_nil)) (And.intro h1 (And.intro h2 (show k ≤ 64 by omega)))) (mulok_nat (binom_lt (show m - 1 ≤ 64 by omega)) (weaves_lt h1 (show k ≤ 64 by omega)) (by omega) (by omega) (by omega))) hq
theorem sc_groups_of : FnScope ["length", "times", "many", "size"] ["length", "times", "many"] (defScope s_groups_of) := ⟨rfl, rfl, rfl, by decide +kernel, rfl, by decide +kernel, by decide +kernel⟩
theorem ok_groups_of {f : Addr} {fd : FuncData} (Df : Def K mg "groups_of" s_groups_of ["length", "times", "many"] f fd) (B : Bn mg) (h_common : Pr P w K mg base CX0 1 "common" ["one", "other"] (spCommon T)) :
    Pr P w K mg base CX0 (1 + 1) "groups_of" ["length", "times", "many"] (spGroups T) := by
  refine fn_O Df sc_groups_of (fun _ => rfl) fun cdv A outer s H E hr => ⟨_, (pss_one (ps_ret (pe_lc (g := (gName 3)) (tt := (tTest (tOp rEq (tCall _ [] _ (tCons (tVar 1) (tCons (tOp (L2.rI IntMulOk fun i j => .int (i * j)) (tVar 0) (tVar 3)) tNil))) (tVar 3)))) (te := (tVar 3)) (own := [("size", 3)]) rfl sc_groups_of.nd (pi_range2 (by rfl) B.range (pa_cons pe_int (pa_cons (pe_op op_add (pv 2) pe_int) pa_nil))) (blkOk_by (N := ["length", "times", "many", "size"]) (sc := defScope s_groups_of) (by decide +kernel)) (fun _ _ _ _ _ => (pg_name (i := 3) sc_groups_of.nd rfl (.inl rfl) (.inr rfl))) (fun _ _ _ _ _ => (pts_one (pt_cmpR op_eq (pe_pr h_common (hr.mono (by decide)) (pa_cons (pv 1) (pa_cons (pe_op op_mulB (pv 0) (pv 3)) pa_nil))) (pv 3) (nomark _)))) (fun _ _ _ _ _ => (pv 3))))), fun i G0 H0 D hp hq hn => ?_⟩
  obtain ⟨l, t, m⟩ := i
  obtain ⟨h1, h2⟩ := hp
  dsimp only at h1 h2 hq ⊢
  refine go_retO (eo_is (ev_lc (S := rN) (xs := List.range' 1 (m + 1 - 1)) (evi_rng2 (ev_k (n := 1) rfl) (ev_addN (ev_var (i := 2) rfl) (ev_k (n := 1) rfl)) (by omega) (by omega)) (by rw [List.length_range']; omega) (fun s => decide (Nat.gcd t (l * s) = s)) (fun s => s) fun i x hx =>
    ⟨_, tg_name, eb_test (ev_eqN (ev_call (t, l * x) (ea_cons (ev_var (i := 1) rfl) (ea_cons (ev_mulN (ev_var (i := 0) rfl) (ev_var (i := 3) rfl) (mulok_nat (show l < 2 ^ 10 by omega) (show x < 2 ^ 10 from ?_) (by omega) (by omega) (by omega))) ea_nil)) trivial) (ev_var (i := 3) rfl)), fun _ => ev_var (i := 3) rfl⟩) ?_) hq
  · obtain ⟨a, b⟩ := List.getElem?_eq_some_iff.mp hx
    rw [List.getElem_range'] at b
    rw [List.length_range'] at a
    omega
  · rw [show m + 1 - 1 = m by omega]
    unfold groupsF
    exact List.map_id _
theorem groups_le {l t n m : Nat} (h : m ≤ n) : (groupsF l t n).filter (fun s => decide (s ≤ m)) = groupsF l t m := by
  unfold groupsF
  rw [List.filter_filter]
  have e : List.range' 1 n = List.range' 1 m ++ List.range' (1 + m) (n - m) := by
    rw [List.range'_append_1]
    congr 1
    omega
  rw [e, List.filter_append]
  have e1 : (List.range' 1 m).filter (fun s => decide (s ≤ m) && decide (Nat.gcd t (l * s) = s)) = (List.range' 1 m).filter (fun s => decide (Nat.gcd t (l * s) = s)) := by
    apply List.filter_congr
    intro s hs
    rw [List.mem_range'_1] at hs
    rw [decide_eq_true (show s ≤ m by omega), Bool.true_and]
  have e2 : (List.range' (1 + m) (n - m)).filter (fun s => decide (s ≤ m) && decide (Nat.gcd t (l * s) = s)) = [] := by
    rw [List.filter_eq_nil_iff]
    intro s hs
    rw [List.mem_range'_1] at hs
    rw [decide_eq_false (show ¬ s ≤ m by omega), Bool.false_and]
    simp
  rw [e1, e2, List.append_nil]
theorem sum_filter {α : Type} (f : α → Nat) (p : α → Bool) (xs : List α) : xs.foldl (fun a x => if p x = true then a + f x else a) 0 = ((xs.filter p).map f).sum := by
  have aux : ∀ (xs : List α) (a : Nat), xs.foldl (fun a x => if p x = true then a + f x else a) a = a + ((xs.filter p).map f).sum := by
    intro xs
    induction xs with
    | nil => intro a; simp
    | cons x xs ih =>
      intro a
      rw [List.foldl_cons, ih, List.filter_cons]
      cases p x <;> simp <;> omega
  rw [aux]
  simp
theorem sc_ways_of : FnScope ["length", "times", "many", "found", "groups", "here", "together", "size"] ["length", "times", "many"] (defScope s_ways_of) := ⟨rfl, rfl, rfl, by decide +kernel, rfl, by decide +kernel, by decide +kernel⟩
theorem ok_ways_of {f : Addr} {fd : FuncData} (Df : Def K mg "ways_of" s_ways_of ["length", "times", "many"] f fd) (B : Bn mg) (h_groups_of : Pr P w K mg base CX0 2 "groups_of" ["length", "times", "many"] (spGroups T)) (h_begun_with : Pr P w K mg base CX0 3 "begun_with" ["length", "size", "many"] (spBegun T)) :
    Pr P w K mg base CX0 (3 + 1) "ways_of" ["length", "times", "many"] (spWays T) := by
  refine fn_O Df sc_ways_of (fun _ => rfl) fun cdv A outer s H E hr => ⟨_, (pss_cons (ps_set (i := 3) sc_ways_of.nd rfl (.inl rfl) (pe_lst (pa_cons pe_int pa_nil)))
    (pss_cons (ps_set (i := 4) sc_ways_of.nd rfl (.inl rfl) (pe_pr h_groups_of (hr.mono (by decide)) (pa_cons (pv 0) (pa_cons (pv 1) (pa_cons (pv 2) pa_nil)))))
    (pss_cons (ps_for PassesOwn.never rfl (pi_range2 (by rfl) B.range (pa_cons pe_int (pa_cons (pe_op op_add (pv 2) pe_int) pa_nil))) (pg_name (i := 5) sc_ways_of.nd rfl (.inl rfl)) (pss_cons (ps_set (i := 6) sc_ways_of.nd rfl (.inl rfl) pe_int)
    (pss_cons (ps_for PassesOwn.never rfl (pi_list (pv 4)) (pg_name (i := 7) sc_ways_of.nd rfl (.inl rfl)) (pss_one (ps_if (pt_cmpR op_le (pv 7) (pv 5) (nomark _)) (pss_one (ps_aug (i := 6) sc_ways_of.nd rfl (.inl rfl) (pe_op op_mulB (pe_pr h_begun_with (hr.mono (by decide)) (pa_cons (pv 0) (pa_cons (pv 7) (pa_cons (pv 5) pa_nil)))) (pe_ix ix_list (pv 3) (pe_op op_sub (pv 5) (pv 7)) (fun _ _ => rfl))) ip_add)) (pss_nil))))
    (pss_one (ps_expr (pe_bm PySem.F.plainAttrs_list PySem.F.slot_list_append PySem.F.type_list_append mt_append (pv 3) (pa_cons (pv 6) pa_nil)))))))
    (pss_one (ps_ret (pv 3)))))), fun i G0 H0 D hp hq hn => ?_⟩
  obtain ⟨l, t, n⟩ := i
  obtain ⟨h0, h1, h2⟩ := hp
  dsimp only at h0 h1 h2 hq ⊢
  refine go_seq (go_asgO (eo_lst (xs := [1]) (ea_cons (ev_k rfl) ea_nil) (by simp)) (to_go ?_))
  refine go_seq (go_asg (ev_frz frz_L (eo_call (l, t, n) (ea_cons (ev_var (i := 0) rfl) (ea_cons (ev_var (i := 1) rfl) (ea_cons (ev_var (i := 2) rfl) ea_nil))) (And.intro h1 h2))) (to_go ?_))
  refine go_seq (go_forS (xs := List.range' 1 (n + 1 - 1)) [5] (fun s : List Nat => [.val rN l, .val rN t, .val rN n, .own (oL rN) s, .val (rL rN) (groupsF l t n), .no, .no, .no]) (fun i s => s = wayL l t i) [1] (evi_rng2 (ev_k (n := 1) rfl) (ev_addN (ev_var (i := 2) rfl) (ev_k (n := 1) rfl)) (by omega) (by omega)) Wk.refl rfl (fun G1 sh i x s hx ps => ?_) fun s ps => ?_)
  · obtain ⟨rfl, hi⟩ : x = i + 1 ∧ i < n := by
      obtain ⟨h1, h2⟩ := List.getElem?_eq_some_iff.mp hx
      rw [List.getElem_range'] at h2
      simp at h1 h2
      omega
    subst ps
    refine ⟨_, tg_name, ?_⟩
    refine go_seq (go_asg (ev_k (n := 0) rfl) (to_go ?_))
    have hstep : ∀ (j x : Nat) (a : Nat), (groupsF l t n)[j]? = some x → ((groupsF l t n).take (j + 1)).foldl (fun a x => if decide (x ≤ i + 1) = true then a + begunF l x (i + 1) * wayN l t (i + 1 - x) else a) 0 = (if decide (x ≤ i + 1) = true then ((groupsF l t n).take j).foldl (fun a x => if decide (x ≤ i + 1) = true then a + begunF l x (i + 1) * wayN l t (i + 1 - x) else a) 0 + begunF l x (i + 1) * wayN l t (i + 1 - x) else ((groupsF l t n).take j).foldl (fun a x => if decide (x ≤ i + 1) = true then a + begunF l x (i + 1) * wayN l t (i + 1 - x) else a) 0) := fun j x a hj => by
      rw [List.take_add_one, hj, List.foldl_append]
      rfl
    refine go_seq (go_forS (xs := groupsF l t n) [7] (fun s : Nat => [.val rN l, .val rN t, .val rN n, .own (oL rN) (wayL l t i), .val (rL rN) (groupsF l t n), .val rN (i + 1), .val rN s, .no]) (fun j s => s = ((groupsF l t n).take j).foldl (fun a x => if decide (x ≤ i + 1) = true then a + begunF l x (i + 1) * wayN l t (i + 1 - x) else a) 0) 0 (evi_list (ev_var (i := 4) rfl)) Wk.refl rfl (fun G2 sh2 j z s2 hz ps2 => ?_) fun s2 ps2 => ?_)
    · refine ⟨_, tg_name, ?_⟩
      obtain ⟨z1, z2, _⟩ := mem_groups.mp (List.mem_of_getElem? hz)
      refine go_if (eb_test (ev_leN (ev_var (i := 7) rfl) (ev_var (i := 5) rfl))) (fun hb => ?_) fun hb => ?_
      · have hle : z ≤ i + 1 := of_decide_eq_true hb
        refine go_augN (i := 6) (f := fun a b => a + b) (c := s2 + begunF l z (i + 1) * wayN l t (i + 1 - z)) rfl (ev_mulN (ev_call (l, z, i + 1) (ea_cons (ev_var (i := 0) rfl) (ea_cons (ev_var (i := 7) rfl) (ea_cons (ev_var (i := 5) rfl) ea_nil))) (And.intro h1 (And.intro z1 (And.intro hle (show i + 1 ≤ 64 by omega))))) (ev_ixO (i := 3) rfl (ev_subN (ev_var (i := 5) rfl) (ev_var (i := 7) rfl) hle) (wayL_get l t (show i + 1 - z ≤ i by omega))) (mulok_nat (begun_lt h1 (show z ≤ 64 by omega) (show i + 1 ≤ 64 by omega)) (way_lt h0 h1 (show i + 1 - z ≤ 64 by omega)) (by omega) (by omega) (by omega))) (Int.natCast_add _ _).symm (to_S (s2 + begunF l z (i + 1) * wayN l t (i + 1 - z)) ?_ (.keep (.keep (.keep (.keep (.keep (.keep (.keep (.drop .nil)))))))))
        rw [hstep j z 0 hz, if_pos (decide_eq_true hle), ps2]
      · have hle : ¬ z ≤ i + 1 := of_decide_eq_false hb
        refine go_next (to_S s2 ?_ (.keep (.keep (.keep (.keep (.keep (.keep (.keep (.drop .nil)))))))))
        rw [hstep j z 0 hz, if_neg (by simpa using hle), ps2]
    · rw [List.take_length, sum_filter, groups_le (show i + 1 ≤ n by omega)] at ps2
      have e : s2 = wayN l t (i + 1) := by rw [ps2, way_succ]
      subst e
      refine to_go (go_app (i := 3) (x := wayN l t (i + 1)) rfl (by rw [wayL_length]; omega) (ev_var (i := 6) rfl) (to_S (wayL l t (i + 1)) rfl ?_))
      have e2 : wayL l t i ++ [wayN l t (i + 1)] = wayL l t (i + 1) := by
        show _ = wayL l t i ++ [_]
        congr 2
        rw [way_succ]
        congr 1
        apply List.map_congr_left
        intro z hz
        have h := mem_groups.mp hz
        rw [List.getD_eq_getElem?_getD, wayL_get l t (show i + 1 - z ≤ i by omega)]
        rfl
      rw [e2]
      exact .keep (.keep (.keep (.keep (.keep (.drop (.drop (.keep .nil)))))))
  · have e : s = wayL l t n := by
      rw [ps, List.length_range']
      congr 1
    subst e
    exact to_go (go_retV (i := 3) (x := wayL l t n) rfl hq)
end
end AO
set_option Elab.async false
set_option linter.all false
/-! AOMathR3: the part of a length and a count. -/
namespace AO
/-- d is the part of l in t: what goes into t and has l's primes alone -/
def IsPart (l t d : Nat) : Prop := ∃ e k, d * e = t ∧ Nat.Coprime e l ∧ d ∣ l ^ k
theorem part_dvd {l t d d' : Nat} (h : IsPart l t d) (h' : IsPart l t d') : d ∣ d' := by
  obtain ⟨e, k, h1, h2, h3⟩ := h
  obtain ⟨e', k', h1', h2', h3'⟩ := h'
  have c : Nat.Coprime d e' := ((h2'.pow_right k).coprime_dvd_right h3).symm
  refine c.dvd_of_dvd_mul_right ?_
  rw [h1', ← h1]
  exact Nat.dvd_mul_right d e
theorem part_uniq {l t d d' : Nat} (h : IsPart l t d) (h' : IsPart l t d') : d = d' := Nat.dvd_antisymm (part_dvd h h') (part_dvd h' h)
open Classical in
noncomputable def partN (l t : Nat) : Nat := if h : ∃ d, IsPart l t d then Classical.choose h else 1
theorem partN_of {l t d : Nat} (h : IsPart l t d) : partN l t = d := by
  unfold partN
  rw [dif_pos ⟨d, h⟩]
  exact part_uniq (Classical.choose_spec (⟨d, h⟩ : ∃ d, IsPart l t d)) h
theorem part_ex {l : Nat} (hl : 0 < l) : ∀ (n t : Nat), t ≤ n → 0 < t → ∃ d, IsPart l t d := by
  intro n
  induction n with
  | zero => intro t h1 h2; omega
  | succ n ih =>
    intro t h1 h2
    by_cases hg : Nat.gcd t l = 1
    · exact ⟨1, t, 0, by simp, hg, by simp⟩
    · have hp : 0 < Nat.gcd t l := Nat.gcd_pos_of_pos_left _ h2
      have hd := Nat.gcd_dvd_left t l
      obtain ⟨e, he⟩ := hd
      have he0 : 0 < e := by
        rcases Nat.eq_zero_or_pos e with z | z
        · rw [z, Nat.mul_zero] at he
          omega
        · exact z
      have hlt : e < t := by
        rw [he]
        have : 1 * e < Nat.gcd t l * e := Nat.mul_lt_mul_of_pos_right (by omega) he0
        omega
      obtain ⟨d, e', k, a, b, c⟩ := ih e (by omega) he0
      refine ⟨Nat.gcd t l * d, e', k + 1, ?_, b, ?_⟩
      · rw [Nat.mul_assoc, a, ← he]
      · rw [Nat.pow_succ, Nat.mul_comm]
        exact Nat.mul_dvd_mul c (Nat.gcd_dvd_right t l)
theorem partN_is {l t : Nat} (hl : 0 < l) (ht : 0 < t) : IsPart l t (partN l t) := by
  obtain ⟨d, h⟩ := part_ex hl t t (Nat.le_refl t) ht
  rw [partN_of h]
  exact h
theorem partN_pos {l t : Nat} (hl : 0 < l) (ht : 0 < t) : 0 < partN l t := by
  obtain ⟨e, k, h1, _, _⟩ := partN_is hl ht
  rcases Nat.eq_zero_or_pos (partN l t) with z | z
  · rw [z, Nat.zero_mul] at h1
    omega
  · exact z
theorem partN_le {l t : Nat} (hl : 0 < l) (ht : 0 < t) : partN l t ≤ t := by
  obtain ⟨e, k, h1, _, _⟩ := partN_is hl ht
  exact Nat.le_of_dvd ht ⟨e, h1.symm⟩
/-- a size of a group: t = s * e, e and l without common part -/
theorem group_iff {l t s : Nat} (hl : 0 < l) (hs : 0 < s) : Nat.gcd t (l * s) = s ↔ ∃ e, t = s * e ∧ Nat.Coprime e l := by
  constructor
  · intro h
    have hd : s ∣ t := by
      rw [← h]
      exact Nat.gcd_dvd_left _ _
    obtain ⟨e, rfl⟩ := hd
    refine ⟨e, rfl, ?_⟩
    rw [Nat.mul_comm l s, Nat.gcd_mul_left] at h
    have : s * Nat.gcd e l = s * 1 := by rw [h, Nat.mul_one]
    exact Nat.eq_of_mul_eq_mul_left hs this
  · rintro ⟨e, rfl, h⟩
    rw [Nat.mul_comm l s, Nat.gcd_mul_left, show Nat.gcd e l = 1 from h, Nat.mul_one]
/-- the part is a size, and each size is a multiple of it -/
theorem part_group {l t : Nat} (hl : 0 < l) (ht : 0 < t) : Nat.gcd t (l * partN l t) = partN l t := by
  obtain ⟨e, k, h1, h2, _⟩ := partN_is hl ht
  exact (group_iff hl (partN_pos hl ht)).mpr ⟨e, h1.symm, h2⟩
theorem group_part {l t s : Nat} (hl : 0 < l) (ht : 0 < t) (hs : 0 < s) (h : Nat.gcd t (l * s) = s) : partN l t ∣ s := by
  obtain ⟨e', he, hc⟩ := (group_iff hl hs).mp h
  obtain ⟨e, k, h1, h2, h3⟩ := partN_is hl ht
  have c : Nat.Coprime (partN l t) e' := ((hc.pow_right k).coprime_dvd_right h3).symm
  refine c.dvd_of_dvd_mul_right ?_
  rw [← he]
  exact ⟨e, h1.symm⟩
theorem sum_pos {xs : List Nat} {x : Nat} (h : x ∈ xs) (h0 : 0 < x) : 0 < xs.sum := by
  induction xs with
  | nil => cases h
  | cons y ys ih =>
    rw [List.sum_cons]
    rcases List.mem_cons.mp h with rfl | h
    · omega
    · have := ih h
      omega
theorem binom_pos : ∀ {n k : Nat}, k ≤ n → 0 < binom n k
  | n, 0, _ => by rw [binom_zero]; decide
  | n + 1, k + 1, h => by
    show 0 < binom n k + binom n (k + 1)
    have := binom_pos (n := n) (k := k) (by omega)
    omega
theorem weaves_pos {l s : Nat} (hl : 0 < l) : 0 < weavesF l s := Nat.mul_pos (fac_pos _) (Nat.pow_pos hl)
theorem begun_pos {l s m : Nat} (hl : 0 < l) (h2 : s ≤ m) : 0 < begunF l s m := Nat.mul_pos (binom_pos (by omega)) (weaves_pos hl)
/-- there are ways just where the part goes into the number of rings -/
theorem way_pos {l t : Nat} (hl : 0 < l) (ht : 0 < t) : ∀ m, 0 < wayN l t m ↔ partN l t ∣ m := by
  intro m
  induction m using Nat.strongRecOn with
  | _ m ih =>
    cases m with
    | zero => exact ⟨fun _ => Nat.dvd_zero _, fun _ => by rw [way_zero]; decide⟩
    | succ m =>
      have hp := partN_pos hl ht
      rw [way_succ]
      constructor
      · intro h
        have : ∃ s ∈ groupsF l t (m + 1), 0 < wayN l t (m + 1 - s) := by
          refine Classical.byContradiction fun hn => ?_
          have z : ((groupsF l t (m + 1)).map fun s => begunF l s (m + 1) * wayN l t (m + 1 - s)).sum ≤ (groupsF l t (m + 1)).length * 0 := sum_le_mul _ 0 _ fun s hs => by
            have : wayN l t (m + 1 - s) = 0 := by
              rcases Nat.eq_zero_or_pos (wayN l t (m + 1 - s)) with z | z
              · exact z
              · exact absurd ⟨s, hs, z⟩ hn
            rw [this, Nat.mul_zero]
            exact Nat.le_refl 0
          omega
        obtain ⟨s, hs, hw⟩ := this
        obtain ⟨s1, s2, s3⟩ := mem_groups.mp hs
        have d1 := (ih _ (by omega)).mp hw
        have d2 := group_part hl ht (by omega) s3
        have := Nat.dvd_add d1 d2
        rwa [Nat.sub_add_cancel s2] at this
      · intro h
        have hle := Nat.le_of_dvd (Nat.succ_pos m) h
        refine sum_pos (List.mem_map.mpr ⟨partN l t, mem_groups.mpr ⟨hp, hle, part_group hl ht⟩, rfl⟩) ?_
        exact Nat.mul_pos (begun_pos hl hle) ((ih _ (by omega)).mpr (Nat.dvd_sub h (Nat.dvd_refl _)))
end AO
set_option Elab.async false
set_option linter.all false
set_option maxRecDepth 100000
set_option maxHeartbeats 4000000
/-! AOR2: parts, checks, picking, ordering. -/
namespace AO
open PySem L2
section
variable {P : Program} {w : World} {K : PySem.W.Frag} {mg : Str → Option Value} {base : Heap} {T : List (Addr × Str)}
abbrev OkL (l t : Nat) : Prop := 0 < l ∧ l ≤ 64 ∧ 0 < t ∧ t < 2 ^ 4000
abbrev spPart (T : List (Addr × Str)) : Sp := spE T (fun i : Nat × Nat => [.val rN i.1, .val rN i.2]) (fun i => OkL i.1 i.2) rN fun i => partN i.1 i.2
abbrev spChkT1 (T : List (Addr × Str)) : Sp := spE T (fun t : Nat => [.val rN t, .val rN 1]) (fun t => 0 < t) rU fun _ => ()
abbrev spChkA (T : List (Addr × Str)) : Sp := spE T (fun i : List Nat × Nat => [.val (rL rN) i.1, .val rN i.2]) (fun i => OkO i.1 ∧ 0 < i.2) rU fun _ => ()
theorem sc_part_of : FnScope ["length", "times", "found", "left", "more"] ["length", "times"] (defScope s_part_of) := ⟨rfl, rfl, rfl, by decide +kernel, rfl, by decide +kernel, by decide +kernel⟩
theorem ok_part_of {f : Addr} {fd : FuncData} (Df : Def K mg "part_of" s_part_of ["length", "times"] f fd) (B : Bn mg) (h_common : Pr P w K mg base CX0 1 "common" ["one", "other"] (spCommon T)) :
    Pr P w K mg base CX0 (1 + 1) "part_of" ["length", "times"] (spPart T) := by
  refine fn_E Df sc_part_of (fun _ => rfl) fun cdv A outer s H E hr => ⟨_, (pss_cons (ps_set (i := 2) sc_part_of.nd rfl (.inl rfl) pe_int)
    (pss_cons (ps_set (i := 3) sc_part_of.nd rfl (.inl rfl) (pv 1))
    (pss_cons (ps_set (i := 4) sc_part_of.nd rfl (.inl rfl) (pe_pr h_common (hr.mono (by decide)) (pa_cons (pv 3) (pa_cons (pv 0) pa_nil))))
    (pss_cons (ps_while PassesOwn.never (pt_cmpR op_gt (pv 4) pe_int (nomark _)) (pss_cons (ps_aug (i := 2) sc_part_of.nd rfl (.inl rfl) (pv 4) ip_mulB)
    (pss_cons (ps_set (i := 3) sc_part_of.nd rfl (.inl rfl) (pe_op op_fdivW (pv 3) (pv 4)))
    (pss_one (ps_set (i := 4) sc_part_of.nd rfl (.inl rfl) (pe_pr h_common (hr.mono (by decide)) (pa_cons (pv 3) (pa_cons (pv 0) pa_nil))))))))
    (pss_one (ps_ret (pv 2))))))), fun i G0 H0 D hp hq hn => ?_⟩
  obtain ⟨l, t⟩ := i
  obtain ⟨h1, h2, h3, h4⟩ := hp
  dsimp only at h1 h2 h3 h4 hq ⊢
  refine go_seq (go_asg (ev_k (n := 1) rfl) (to_go ?_))
  refine go_seq (go_asg (ev_var (R := rN) (x := t) (i := 1) rfl) (to_go ?_))
  refine go_seq (go_asg (ev_call (t, l) (ea_cons (ev_var (i := 3) rfl) (ea_cons (ev_var (i := 0) rfl) ea_nil)) trivial) (to_go ?_))
  refine go_seq (go_whileS (fun s : Nat × Nat => [.val rN l, .val rN t, .val rN s.1, .val rN s.2, .val rN (Nat.gcd s.2 l)]) (fun s => s.1 * s.2 = t ∧ ∃ k, s.1 ∣ l ^ k) (fun s => s.2) (fun s => decide (1 < Nat.gcd s.2 l)) (1, t) Wk.refl ⟨by simp, 0, by simp⟩ (fun s ps => eb_test (ev_gtN (ev_var (i := 4) rfl) (ev_k (n := 1) rfl))) (fun s ps hb => ?_) fun s ps hb => ?_)
  · obtain ⟨d, e⟩ := s
    obtain ⟨q1, k, q2⟩ := ps
    dsimp only at q1 q2
    have hg : 1 < Nat.gcd e l := of_decide_eq_true hb
    have he : 0 < e := by
      rcases Nat.eq_zero_or_pos e with z | z
      · rw [z, Nat.mul_zero] at q1
        omega
      · exact z
    have hd : 0 < d := by
      rcases Nat.eq_zero_or_pos d with z | z
      · rw [z, Nat.zero_mul] at q1
        omega
      · exact z
    have hdt : d ≤ t := Nat.le_of_dvd h3 ⟨e, q1.symm⟩
    have hgl : Nat.gcd e l ≤ l := Nat.gcd_le_right _ h1
    obtain ⟨c, hc⟩ := Nat.gcd_dvd_left e l
    have hdiv : e / Nat.gcd e l = c := by
      conv => lhs; lhs; rw [hc]
      exact Nat.mul_div_cancel_left _ (by omega)
    refine go_seq (go_augMulN (i := 2) rfl (ev_var (i := 4) rfl) (mulok_nat (show d < 2 ^ 4000 by omega) (show Nat.gcd e l < 2 ^ 10 by omega) (by omega) (by omega) (by omega)) (to_go ?_))
    refine go_seq (go_asg (ev_is (ev_divN (ev_var (i := 3) rfl) (ev_var (i := 4) rfl) (by dsimp only; omega) (Nat.lt_of_le_of_lt (Nat.log2_le_self _) (show Nat.gcd e l < 9000 by omega))) hdiv) (to_go ?_))
    refine go_asg (ev_call (c, l) (ea_cons (ev_var (i := 3) rfl) (ea_cons (ev_var (i := 0) rfl) ea_nil)) trivial) (to_S (d * Nat.gcd e l, c) ⟨⟨?_, k + 1, ?_⟩, ?_⟩ Wk.refl)
    · dsimp only
      rw [Nat.mul_assoc, ← hc, q1]
    · dsimp only
      rw [Nat.pow_succ]
      exact Nat.mul_dvd_mul q2 (Nat.gcd_dvd_right e l)
    · dsimp only
      have : 1 * c < Nat.gcd e l * c := Nat.mul_lt_mul_of_pos_right hg (by
        rcases Nat.eq_zero_or_pos c with z | z
        · rw [z, Nat.mul_zero] at hc
          omega
        · exact z)
      rw [← hc] at this
      omega
  · obtain ⟨d, e⟩ := s
    obtain ⟨q1, k, q2⟩ := ps
    dsimp only at q1 q2
    have hg : ¬ 1 < Nat.gcd e l := of_decide_eq_false hb
    have hp : 0 < Nat.gcd e l := Nat.gcd_pos_of_pos_right _ h1
    have : partN l t = d := partN_of ⟨e, k, q1, show Nat.gcd e l = 1 by omega, q2⟩
    refine to_go (go_ret (ev_var (i := 2) rfl) fun v G H st r => hq v G H st ?_)
    rw [this]
    exact r
theorem sc_check_all : FnScope ["order", "times"] ["order", "times"] (defScope s_check_all) := ⟨rfl, rfl, rfl, by decide +kernel, rfl, by decide +kernel, by decide +kernel⟩
theorem ok_check_times1 {f : Addr} {fd : FuncData} (Df : Def K mg "check_times" s_check_times ["times", "least"] f fd) (B : Bn mg) (h_is_whole : Pr P w K mg base CX0 1 "is_whole" ["thing"] (spWhole T)) :
    Pr P w K mg base CX0 (1 + 1) "check_times" ["times", "least"] (spChkT1 T) := by
  refine fn_E Df sc_check_times (fun _ => rfl) fun cdv A outer s H E hr => ⟨_, (pss_one (ps_if (PW.pt (pw_or (pt_not (pt_val (pe_pr h_is_whole (hr.mono (by decide)) (pa_cons (pv 0) pa_nil)))) (pw_or1 (PW.pt (pw_and (pt_cmpR op_notN (pv 1) pe_non (nomark _)) (pw_and1 (pt_cmpR op_lt (pv 0) (pv 1) (nomark _)))))))) (pss_one (ps_dead)) (pss_nil))), fun t G0 H0 D hp hq hn => ?_⟩
  refine go_if (b := false) (eb_or (a := false) (b := false) (eb_not (eb_B (ev_call (t : Int) (ea_cons (ev_NI (ev_var (i := 0) rfl)) ea_nil) trivial))) fun _ => eb_and (a := true) (b := false) (eb_test (ev_op (R := rN) (S := rU) (x := 1) (y := ()) (ev_var (i := 1) rfl) ev_non fun G H v w' Q m rv rw' q => ⟨rw', q _ G H (Step.refl m) (by rw [show v = .int _ from rv]; rfl)⟩)) fun _ => eb_is (eb_test (ev_ltN (ev_var (i := 0) rfl) (ev_var (i := 1) rfl))) (decide_eq_false (by omega))) (fun hb => by cases hb) fun hb => ?_
  exact go_next fun G H σ F m => hn σ H (hq .non G H m.st rfl)
theorem ok_check_all {f : Addr} {fd : FuncData} (Df : Def K mg "check_all" s_check_all ["order", "times"] f fd) (B : Bn mg) (h_check_order : Pr P w K mg base CX0 3 "check_order" ["order"] (spChkO T)) (h_check_times : Pr P w K mg base CX0 2 "check_times" ["times", "least"] (spChkT1 T)) :
    Pr P w K mg base CX0 (3 + 1) "check_all" ["order", "times"] (spChkA T) := by
  refine fn_E Df sc_check_all (fun _ => rfl) fun cdv A outer s H E hr => ⟨_, (pss_cons (ps_expr (pe_pr h_check_order (hr.mono (by decide)) (pa_cons (pv 0) pa_nil)))
    (pss_one (ps_expr (pe_pr h_check_times (hr.mono (by decide)) (pa_cons (pv 1) (pa_cons pe_int pa_nil)))))), fun i G0 H0 D hp hq hn => ?_⟩
  refine go_seq (go_drop (ev_call i.1 (ea_cons (ev_var (i := 0) rfl) ea_nil) hp.1) (to_go ?_))
  refine go_drop (ev_call i.2 (ea_cons (ev_var (i := 1) rfl) (ea_cons (ev_k rfl) ea_nil)) hp.2) ?_
  exact fun G H σ F m => hn σ H (hq .non G H m.st rfl)
end
end AO
set_option Elab.async false
set_option linter.all false
/-! AOMath4: two orders with alike rings, and what turns the one into the other. -/
namespace AO
def lookL {α : Type} (xs : List (Int × α)) (k : Int) : Option α := (xs.find? fun p => decide (p.1 = k)).map (·.2)
/-- the rings of length l, l any whole number -/
def ofLenI (σ : List Nat) (l : Int) : List (List Nat) := (rings σ).filter fun r => decide ((r.length : Int) = l)
theorem look_byLen {σ : List Nat} (h : IsP σ) (l : Int) : (lookL (byLen σ) l).getD [] = ofLenI σ l := by
  unfold lookL byLen
  rw [List.find?_map]
  have hc : ((fun p : Int × List (List Nat) => decide (p.1 = l)) ∘ fun k : Nat => ((k : Int), ofLen σ k)) = fun k : Nat => decide ((k : Int) = l) := rfl
  rw [hc]
  cases e : (lens σ).find? fun k : Nat => decide ((k : Int) = l) with
  | none =>
    have : ofLenI σ l = [] := by
      unfold ofLenI
      rw [List.filter_eq_nil_iff]
      intro r hr hd
      have := List.find?_eq_none.mp e r.length ((mem_lens h).mpr ⟨r, hr, rfl⟩)
      exact this hd
    rw [this]
    rfl
  | some k =>
    have h1 := List.find?_some e
    have h1 : (k : Int) = l := by simpa using h1
    show ofLen σ k = ofLenI σ l
    unfold ofLen ofLenI
    congr 1
    funext r
    rw [← h1]
    by_cases z : r.length = k
    · simp [z]
    · have : ¬ (r.length : Int) = (k : Int) := by omega
      simp [z, this]
theorem nodup_leI : ∀ {l m : List Int}, l.Nodup → (∀ x ∈ l, x ∈ m) → l.length ≤ m.length
  | [], _, _, _ => Nat.zero_le _
  | a :: l, m, h, hs => by
    have ha : a ∈ m := hs a (List.mem_cons_self ..)
    have h2 := List.nodup_cons.mp h
    have := nodup_leI (l := l) (m := m.erase a) h2.2 fun x hx => by
      have : x ≠ a := fun e => h2.1 (e ▸ hx)
      exact (List.mem_erase_of_ne this).mpr (hs x (List.mem_cons_of_mem _ hx))
    rw [List.length_erase_of_mem ha] at this
    have : 0 < m.length := List.length_pos_of_mem ha
    simp
    omega
/-- all lengths that the rings of the one or the other have, rising -/
def unionK (σ τ : List Nat) : List Int := ((List.range 64).filter fun l => decide (l ∈ lens σ) || decide (l ∈ lens τ)).map fun l : Nat => (l : Int)
theorem unionK_lt (σ τ : List Nat) : (unionK σ τ).Pairwise (· < ·) := by
  unfold unionK
  rw [List.pairwise_map]
  exact (List.Pairwise.filter _ List.pairwise_lt_range).imp fun h => by omega
theorem byLen_keys (σ : List Nat) : (byLen σ).map (·.1) = (lens σ).map fun l : Nat => (l : Int) := by
  unfold byLen
  rw [List.map_map]
  rfl
theorem lens_lt64 {σ : List Nat} (h : IsP σ) (hz : σ.length ≤ 60) {l : Nat} (hl : l ∈ lens σ) : 0 < l ∧ l < 61 := by
  obtain ⟨r, hr, rfl⟩ := (mem_lens h).mp hl
  have := ring_len h hr
  omega
theorem mem_unionK {σ τ : List Nat} (h : IsP σ) (h2 : IsP τ) (hz : σ.length ≤ 60) (hz2 : τ.length ≤ 60) (k : Int) : k ∈ unionK σ τ ↔ k ∈ (byLen σ).map (·.1) ++ (byLen τ).map (·.1) := by
  rw [byLen_keys, byLen_keys, List.mem_append, List.mem_map, List.mem_map]
  unfold unionK
  rw [List.mem_map]
  constructor
  · rintro ⟨l, hl, rfl⟩
    have := (List.mem_filter.mp hl).2
    rw [Bool.or_eq_true, decide_eq_true_iff, decide_eq_true_iff] at this
    rcases this with z | z
    · exact .inl ⟨l, z, rfl⟩
    · exact .inr ⟨l, z, rfl⟩
  · rintro (⟨l, hl, rfl⟩ | ⟨l, hl, rfl⟩)
    · exact ⟨l, List.mem_filter.mpr ⟨List.mem_range.mpr (by have := lens_lt64 h hz hl; omega), by simp [hl]⟩, rfl⟩
    · exact ⟨l, List.mem_filter.mpr ⟨List.mem_range.mpr (by have := lens_lt64 h2 hz2 hl; omega), by simp [hl]⟩, rfl⟩
theorem union_uniq {σ τ : List Nat} (h : IsP σ) (h2 : IsP τ) (hz : σ.length ≤ 60) (hz2 : τ.length ≤ 60) {ms : List Int} (hp : ms.Pairwise (· < ·)) (hm : ∀ k : Int, k ∈ ms ↔ k ∈ (byLen σ).map (·.1) ++ (byLen τ).map (·.1)) : ms = unionK σ τ := by
  have nd : ∀ {l : List Int}, l.Pairwise (· < ·) → l.Nodup := fun h => h.imp fun h e => by omega
  refine List.Perm.eq_of_pairwise (le := (· ≤ ·)) (fun _ _ _ _ h1 h2 => Int.le_antisymm h1 h2) (hp.imp Int.le_of_lt) ((unionK_lt σ τ).imp Int.le_of_lt) ?_
  exact (List.perm_ext_iff_of_nodup (nd hp) (nd (unionK_lt σ τ))).mpr fun k => (hm k).trans (mem_unionK h h2 hz hz2 k).symm
theorem union_few {σ τ : List Nat} (h : IsP σ) (h2 : IsP τ) (hz : σ.length ≤ 60) (hz2 : τ.length ≤ 60) {m : List Int} (hn : m.Nodup) (hm : ∀ k ∈ m, k ∈ (byLen σ).map (·.1) ++ (byLen τ).map (·.1)) : m.length < 64 := by
  have := nodup_leI (m := (List.range 61).map fun l : Nat => (l : Int)) hn fun k hk => by
    have := hm k hk
    rw [byLen_keys, byLen_keys, List.mem_append, List.mem_map, List.mem_map] at this
    rw [List.mem_map]
    rcases this with ⟨l, hl, rfl⟩ | ⟨l, hl, rfl⟩
    · exact ⟨l, List.mem_range.mpr (by have := lens_lt64 h hz hl; omega), rfl⟩
    · exact ⟨l, List.mem_range.mpr (by have := lens_lt64 h2 hz2 hl; omega), rfl⟩
  rw [List.length_map, List.length_range] at this
  omega
/-- thing and place, of each length ring by ring -/
def pairsOf (σ τ : List Nat) (l : Int) : List (Nat × Nat) := ((ofLenI σ l).zip (ofLenI τ l)).flatMap fun p => p.1.zip p.2
def setAll (f : List Nat) (ps : List (Nat × Nat)) : List Nat := ps.foldl (fun f p => f.set p.1 p.2) f
def allPairs (σ τ : List Nat) : List (Nat × Nat) := (unionK σ τ).flatMap (pairsOf σ τ)
def conj (σ τ : List Nat) : List Nat := setAll (List.replicate σ.length 0) (allPairs σ τ)
def unl (σ τ : List Nat) (l : Int) : Bool := !decide ((ofLenI σ l).length = (ofLenI τ l).length)
theorem setAll_length (ps : List (Nat × Nat)) : ∀ f : List Nat, (setAll f ps).length = f.length := by
  induction ps with
  | nil => intro f; rfl
  | cons p ps ih =>
    intro f
    show (setAll (f.set p.1 p.2) ps).length = _
    rw [ih, List.length_set]
theorem setAll_app (f : List Nat) (ps qs : List (Nat × Nat)) : setAll f (ps ++ qs) = setAll (setAll f ps) qs := List.foldl_append
end AO
set_option Elab.async false
set_option linter.all false
/-! AOMath5: many places set at once; a ring laid into an order. -/
namespace AO
theorem setAll_out : ∀ {ps : List (Nat × Nat)} {f : List Nat} {x : Nat}, x ∉ ps.map (·.1) → (setAll f ps)[x]? = f[x]?
  | [], _, _, _ => rfl
  | p :: ps, f, x, h => by
    rw [List.map_cons, List.mem_cons, not_or] at h
    show (setAll (f.set p.1 p.2) ps)[x]? = _
    rw [setAll_out h.2, List.getElem?_set_ne (Ne.symm h.1)]
theorem setAll_in : ∀ {ps : List (Nat × Nat)} {f : List Nat} {p : Nat × Nat}, (ps.map (·.1)).Nodup → p ∈ ps → p.1 < f.length → (setAll f ps)[p.1]? = some p.2
  | [], _, _, _, h, _ => by cases h
  | q :: ps, f, p, hn, h, hl => by
    rw [List.map_cons, List.nodup_cons] at hn
    show (setAll (f.set q.1 q.2) ps)[p.1]? = _
    rcases List.mem_cons.mp h with e | h
    · subst e
      rw [setAll_out hn.1, List.getElem?_set_self hl]
    · exact setAll_in hn.2 h (by rw [List.length_set]; exact hl)
theorem zip_fst {α β : Type} {xs : List α} {ys : List β} (h : xs.length = ys.length) : (xs.zip ys).map (·.1) = xs := List.map_fst_zip (by omega)
theorem nodup_of_at {xs : List Nat} (h : ∀ (i j x : Nat), xs[i]? = some x → xs[j]? = some x → i = j) : xs.Nodup := by
  rw [List.nodup_iff_pairwise_ne, List.pairwise_iff_getElem]
  intro i j hi hj hij e
  have := h i j xs[i] (List.getElem?_eq_getElem hi) (by rw [List.getElem?_eq_getElem hj, e])
  omega
theorem at_inj {xs : List Nat} (h : xs.Nodup) {i j x : Nat} (hi : xs[i]? = some x) (hj : xs[j]? = some x) : i = j := by
  obtain ⟨h1, e1⟩ := List.getElem?_eq_some_iff.mp hi
  obtain ⟨h2, e2⟩ := List.getElem?_eq_some_iff.mp hj
  exact (List.getElem_inj h).mp (e1.trans e2.symm)
/-- a ring turned by one -/
def rot1 (r : List Nat) : List Nat := r.drop 1 ++ r.take 1
theorem rot1_perm (r : List Nat) : (rot1 r).Perm r := by
  have h := List.perm_append_comm (l₁ := r.drop 1) (l₂ := r.take 1)
  rw [List.take_append_drop] at h
  exact h
theorem lay_ring {f r : List Nat} (hf : IsP f) (hn : r.Nodup) (hl : ∀ x ∈ r, f[x]? = some x) : IsP (setAll f (r.zip (rot1 r))) ∧ ∀ x, x ∉ r → (setAll f (r.zip (rot1 r)))[x]? = f[x]? := by
  have hrl : r.length = (rot1 r).length := (rot1_perm r).length_eq.symm
  have hfst := zip_fst hrl
  have hrn : (rot1 r).Nodup := (rot1_perm r).nodup_iff.mpr hn
  have out : ∀ x, x ∉ r → (setAll f (r.zip (rot1 r)))[x]? = f[x]? := fun x hx => setAll_out (by rw [hfst]; exact hx)
  have lt : ∀ x ∈ r, x < f.length := fun x hx => (List.getElem?_eq_some_iff.mp (hl x hx)).1
  have inn : ∀ a x, r[a]? = some x → ∃ y, (rot1 r)[a]? = some y ∧ (setAll f (r.zip (rot1 r)))[x]? = some y := fun a x ha => by
    have h1 := (List.getElem?_eq_some_iff.mp ha).1
    have h2 : a < (rot1 r).length := by omega
    refine ⟨(rot1 r)[a], List.getElem?_eq_getElem h2, ?_⟩
    exact setAll_in (p := (x, (rot1 r)[a])) (by rw [hfst]; exact hn) (List.mem_of_getElem? (i := a) (List.getElem?_zip_eq_some.mpr ⟨ha, List.getElem?_eq_getElem h2⟩)) (lt x (List.mem_of_getElem? ha))
  have mem : ∀ y ∈ rot1 r, y ∈ r := fun y hy => (rot1_perm r).mem_iff.mp hy
  have fin : ∀ i x, (setAll f (r.zip (rot1 r)))[i]? = some x → (i ∈ r ∧ x ∈ r ∧ ∃ a, r[a]? = some i ∧ (rot1 r)[a]? = some x) ∨ (i ∉ r ∧ f[i]? = some x ∧ x ∉ r) := fun i x hx => by
    by_cases hi : i ∈ r
    · obtain ⟨a, ha, e⟩ := List.mem_iff_getElem.mp hi
      have ha2 : r[a]? = some i := by rw [List.getElem?_eq_getElem ha, e]
      obtain ⟨y, hy, hs⟩ := inn a i ha2
      rw [hs] at hx
      rw [← Option.some.inj hx]
      exact .inl ⟨hi, mem y (List.mem_of_getElem? hy), a, ha2, hy⟩
    · rw [out i hi] at hx
      refine .inr ⟨hi, hx, fun hxr => hi ?_⟩
      have := at_inj hf.nodup hx (hl x hxr)
      rw [this]
      exact hxr
  refine ⟨isP_of (fun x hx => ?_) (nodup_of_at fun i j x hi hj => ?_), out⟩
  · obtain ⟨i, hi, e⟩ := List.mem_iff_getElem.mp hx
    rw [setAll_length]
    rcases fin i x (by rw [List.getElem?_eq_getElem hi, e]) with ⟨_, h, _⟩ | ⟨_, h, _⟩
    · exact lt x h
    · exact hf.mem.mp (List.mem_of_getElem? h)
  · rcases fin i x hi with ⟨_, h1, a, ha, hax⟩ | ⟨_, h1, h1'⟩
    · rcases fin j x hj with ⟨_, _, b, hb, hbx⟩ | ⟨_, _, h2'⟩
      · have := at_inj hrn hax hbx
        subst this
        rw [ha] at hb
        exact Option.some.inj hb
      · exact absurd h1 h2'
    · rcases fin j x hj with ⟨_, h2, _⟩ | ⟨_, h2, _⟩
      · exact absurd h2 h1'
      · exact at_inj hf.nodup h1 h2
theorem erase_perm : ∀ {l : List Nat} {i : Nat} (h : i < l.length), (l[i] :: l.eraseIdx i).Perm l
  | a :: l, 0, _ => List.Perm.refl _
  | a :: l, i + 1, h => (List.Perm.swap a _ _).trans ((erase_perm (l := l) (i := i) (by simpa using h)).cons a)
theorem range_P (n : Nat) : IsP (List.range n) := by
  unfold IsP
  rw [List.length_range]
end AO
set_option Elab.async false
set_option linter.all false
/-! AOMathR4: picking, ordering, turning, weaving: what the program reckons. -/
namespace AO
def pickF {α : Type} : List α → Nat → Nat → List α × List α
  | [], _, _ => ([], [])
  | x :: xs, 0, n => ((pickF xs 0 n).1, x :: (pickF xs 0 n).2)
  | x :: xs, r + 1, n => if n < binom xs.length r then (x :: (pickF xs r n).1, (pickF xs r n).2) else ((pickF xs (r + 1) (n - binom xs.length r)).1, x :: (pickF xs (r + 1) (n - binom xs.length r)).2)
def orderF {α : Type} : Nat → List α → Nat → List α
  | 0, _, _ => []
  | k + 1, left, n => match left[n % left.length]? with
    | some x => x :: orderF k (left.eraseIdx (n % left.length)) (n / left.length)
    | none => []
def turnF (l : Nat) : List (List Nat) → Nat → List (List Nat)
  | [], _ => []
  | r :: rs, t => (r.drop (t % l) ++ r.take (t % l)) :: turnF l rs (t / l)
/-- where the things of some rings come to stand in one ring -/
def placesF (rs : List (List Nat)) (t L : Nat) : List (Nat × Nat) := ((List.range rs.length).zip rs).flatMap fun p => ((List.range p.2.length).zip p.2).map fun q => ((p.1 + q.1 * t) % L, q.2)
def wholeF (rs : List (List Nat)) (t : Nat) : List Nat := setAll (List.replicate (rs.length * (rs.getD 0 []).length) 0) (placesF rs t (rs.length * (rs.getD 0 []).length))
def ringPairs (whole : List Nat) : List (Nat × Nat) := ((List.range whole.length).zip whole).map fun p => (p.2, whole.getD ((p.1 + 1) % whole.length) 0)
def wovenF (root : List Nat) (rs : List (List Nat)) (t : Nat) : List Nat := setAll root (ringPairs (wholeF rs t))
/-- the size of the first group, and what is left of the number -/
def chooseF (bl : Nat → Nat) : List Nat → Nat → Nat × Nat
  | [], h => (0, h)
  | s :: gs, h => if h < bl s then (s, h) else chooseF bl gs (h - bl s)
/-- one turn: rings left, their number here -> the rings woven, those left, the number then -/
def blockF (l t m here : Nat) : Nat × Nat := chooseF (fun s => begunF l s m * wayN l t (m - s)) (groupsF l t m) here
structure Turn where
  size : Nat
  here : Nat
  mine : Nat
  weave : Nat
  some : List (List Nat)
  rest : List (List Nat)
def turnAt (l t : Nat) (r0 : List Nat) (rs : List (List Nat)) (here : Nat) : Turn :=
  let b := blockF l t (rs.length + 1) here
  let after := wayN l t (rs.length + 1 - b.1)
  let mine := b.2 / after
  let pk := pickF rs (b.1 - 1) (mine / weavesF l b.1)
  let weave := mine % weavesF l b.1
  ⟨b.1, b.2 % after, mine / weavesF l b.1, weave, r0 :: turnF l (orderF pk.1.length pk.1 (weave / l ^ (b.1 - 1))) (weave % l ^ (b.1 - 1)), pk.2⟩
def innerF (l t : Nat) : Nat → List (List Nat) → Nat → List Nat → List Nat
  | 0, _, _, root => root
  | _ + 1, [], _, root => root
  | k + 1, r0 :: rs, here, root => innerF l t k (turnAt l t r0 rs here).rest (turnAt l t r0 rs here).here (wovenF root (turnAt l t r0 rs here).some t)
/-- the roots' part of one length, then the next -/
def outerF (t : Nat) : List (Int × List (List Nat)) → Nat → List Nat → List Nat
  | [], _, root => root
  | p :: ps, number, root => outerF t ps (number / wayN p.1.toNat t p.2.length) (innerF p.1.toNat t p.2.length p.2 (number % wayN p.1.toNat t p.2.length) root)
end AO
set_option Elab.async false
set_option linter.all false
set_option maxRecDepth 100000
set_option maxHeartbeats 4000000
/-! AOR3: picking and ordering, walked. -/
namespace AO
open PySem L2
abbrev rRs : Rep (List (List Nat)) := rL (rL rN)
theorem pick_len {α : Type} : ∀ (xs : List α) (r n : Nat), (pickF xs r n).1.length + (pickF xs r n).2.length = xs.length
  | [], _, _ => rfl
  | x :: xs, 0, n => by
    have := pick_len xs 0 n
    simp only [pickF, List.length_cons]
    omega
  | x :: xs, r + 1, n => by
    have h1 := pick_len xs r n
    have h2 := pick_len xs (r + 1) (n - binom xs.length r)
    simp only [pickF]
    split <;> simp only [List.length_cons] <;> omega
section
variable {P : Program} {w : World} {K : PySem.W.Frag} {mg : Str → Option Value} {base : Heap} {T : List (Addr × Str)}
abbrev spPicked (T : List (Addr × Str)) : Sp := spE T (fun i : List (List Nat) × Nat × Nat => [.val rRs i.1, .val rN i.2.1, .val rN i.2.2]) (fun i => i.1.length ≤ 64 ∧ i.2.1 ≤ 64) (rP rRs rRs) fun i => pickF i.1 i.2.1 i.2.2
abbrev spOrdered (T : List (Addr × Str)) : Sp := spO T (fun i : List (List Nat) × Nat => [.val rRs i.1, .val rN i.2]) (fun i => i.1.length ≤ 64) (oL (rL rN)) fun i => orderF i.1.length i.1 i.2
theorem sc_picked : FnScope ["some", "size", "number", "found", "left", "at", "one", "here"] ["some", "size", "number"] (defScope s_picked) := ⟨rfl, rfl, rfl, by decide +kernel, rfl, by decide +kernel, by decide +kernel⟩
theorem ok_picked {f : Addr} {fd : FuncData} (Df : Def K mg "picked" s_picked ["some", "size", "number"] f fd) (B : Bn mg) (h_picks : Pr P w K mg base CX0 1 "picks" ["many", "some"] (spPicks T)) :
    Pr P w K mg base CX0 (1 + 1) "picked" ["some", "size", "number"] (spPicked T) := by
  refine fn_E Df sc_picked (fun _ => rfl) fun cdv A outer s H E hr => ⟨_, (pss_cons (ps_set (i := 3) sc_picked.nd rfl (.inl rfl) (pe_lst pa_nil))
    (pss_cons (ps_set (i := 4) sc_picked.nd rfl (.inl rfl) (pe_lst pa_nil))
    (pss_cons (ps_for PassesOwn.never rfl (pi_enum (by rfl) B.enumerate (pa_cons (pv 0) pa_nil)) (pg_tup rfl (pgs_cons (pg_name (i := 5) sc_picked.nd rfl (.inl rfl)) (pgs_cons (pg_name (i := 6) sc_picked.nd rfl (.inl rfl)) pgs_nil))) (pss_cons (ps_set (i := 7) sc_picked.nd rfl (.inl rfl) (pe_ifExp (pt_cmpR op_lt (pe_callB call_len_seq (by rfl) B.len PySem.boot_len (pa_cons (pv 3) pa_nil)) (pv 1) (nomark _)) (pe_pr h_picks (hr.mono (by decide)) (pa_cons (pe_op op_sub (pe_op op_sub (pe_callB call_len_seq (by rfl) B.len PySem.boot_len (pa_cons (pv 0) pa_nil)) (pv 5)) pe_int) (pa_cons (pe_op op_sub (pe_op op_sub (pv 1) (pe_callB call_len_seq (by rfl) B.len PySem.boot_len (pa_cons (pv 3) pa_nil))) pe_int) pa_nil))) pe_int))
    (pss_one (ps_if (pt_cmpR op_lt (pv 2) (pv 7) (nomark _)) (pss_one (ps_expr (pe_bm PySem.F.plainAttrs_list PySem.F.slot_list_append PySem.F.type_list_append mt_append (pv 3) (pa_cons (pv 6) pa_nil)))) (pss_cons (ps_aug (i := 2) sc_picked.nd rfl (.inl rfl) (pv 7) ip_sub)
    (pss_one (ps_expr (pe_bm PySem.F.plainAttrs_list PySem.F.slot_list_append PySem.F.type_list_append mt_append (pv 4) (pa_cons (pv 6) pa_nil)))))))))
    (pss_one (ps_ret (pe_tup (pa_cons (pv 3) (pa_cons (pv 4) pa_nil)))))))), fun i G0 H0 D hp hq hn => ?_⟩
  obtain ⟨xs, k, n0⟩ := i
  obtain ⟨h1, h2⟩ := hp
  dsimp only at h1 h2 hq ⊢
  refine go_seq (go_asgO (eo_lst0 (R := rL rN)) (to_go ?_))
  refine go_seq (go_asgO (eo_lst0 (R := rL rN)) (to_go ?_))
  refine go_seq (go_forS (xs := enumL xs) [5, 6] (fun s : List (List Nat) × List (List Nat) × Nat => [.val rRs xs, .val rN k, .val rN s.2.2, .own (oL (rL rN)) s.1, .own (oL (rL rN)) s.2.1, .no, .no, .no])
    (fun i s => s.1.length ≤ k ∧ s.1.length + s.2.1.length = i ∧ pickF xs k n0 = (s.1 ++ (pickF (xs.drop i) (k - s.1.length) s.2.2).1, s.2.1 ++ (pickF (xs.drop i) (k - s.1.length) s.2.2).2)) ([], [], n0) (evi_enum (ev_var (i := 0) rfl)) Wk.refl ⟨Nat.zero_le _, rfl, by simp⟩ (fun G1 sh i p s hx ps => ?_) fun s ps => ?_)
  · obtain ⟨e1, e2⟩ := enumL_get hx
    obtain ⟨at_, x⟩ := p
    dsimp only at e1 e2
    subst e1
    obtain ⟨fo, le, n⟩ := s
    obtain ⟨p1, p2, p3⟩ := ps
    dsimp only at p1 p2 p3
    have hil := (List.getElem?_eq_some_iff.mp e2).1
    have hdr : xs.drop at_ = x :: xs.drop (at_ + 1) := by
      rw [List.drop_eq_getElem_cons hil]
      congr 1
      rw [List.getElem?_eq_getElem hil] at e2
      exact Option.some.inj e2
    have hdl : (xs.drop (at_ + 1)).length = xs.length - at_ - 1 := by rw [List.length_drop]; omega
    rw [hdr] at p3
    refine ⟨_, tg_tup (R := rN) (S := rL rN) tg_name tg_name, ?_⟩
    refine go_seq (go_asg (R := rN) (x := if fo.length < k then binom (xs.length - at_ - 1) (k - fo.length - 1) else 0) (ev_if (b := decide (fo.length < k)) (eb_test (ev_ltN (ev_lenO (i := 3) rfl) (ev_var (i := 1) rfl))) (fun hb => ?_) fun hb => ?_) (to_go ?_))
    · have hb : fo.length < k := of_decide_eq_true hb
      rw [if_pos hb]
      exact ev_call (xs.length - at_ - 1, k - fo.length - 1) (ea_cons (ev_subN (ev_subN (ev_len (ev_var (i := 0) rfl)) (ev_var (i := 5) rfl) (by omega)) (ev_k (n := 1) rfl) (by omega)) (ea_cons (ev_subN (ev_subN (ev_var (i := 1) rfl) (ev_lenO (i := 3) rfl) (by omega)) (ev_k (n := 1) rfl) (by omega)) ea_nil)) (And.intro (show xs.length - at_ - 1 ≤ 64 by omega) (show k - fo.length - 1 ≤ 64 by omega))
    · have hb : ¬ fo.length < k := of_decide_eq_false hb
      rw [if_neg hb]
      exact ev_k rfl
    · refine go_if (eb_test (ev_ltN (ev_var (i := 2) rfl) (ev_var (i := 7) rfl))) (fun hb => ?_) fun hb => ?_
      · have hb := of_decide_eq_true hb
        by_cases hk : fo.length < k
        · rw [if_pos hk] at hb
          refine go_app (i := 3) (x := x) rfl (show fo.length < 100000 by omega) (ev_var (i := 6) rfl) (to_S (fo ++ [x], le, n) ⟨?_, ?_, ?_⟩ (.keep (.keep (.keep (.keep (.keep (.drop (.drop (.drop .nil)))))))))
          · simp
            omega
          · simp
            omega
          · obtain ⟨r, hr⟩ : ∃ r, k - fo.length = r + 1 := ⟨k - fo.length - 1, by omega⟩
            have e3 : k - fo.length - 1 = r := by omega
            rw [p3, hr]
            simp only [pickF, hdl]
            rw [e3] at hb
            rw [if_pos hb]
            have e4 : k - (fo ++ [x]).length = r := by simp; omega
            rw [e4]
            simp
        · rw [if_neg hk] at hb
          omega
      · have hb : ¬ n < _ := of_decide_eq_false hb
        refine go_seq (go_augN (i := 2) (f := fun a b => a - b) (c := n - if fo.length < k then binom (xs.length - at_ - 1) (k - fo.length - 1) else 0) rfl (ev_var (i := 7) rfl) (by dsimp only; omega) (to_go ?_))
        refine go_app (i := 4) (x := x) rfl (show le.length < 100000 by omega) (ev_var (i := 6) rfl) (to_S (fo, le ++ [x], n - if fo.length < k then binom (xs.length - at_ - 1) (k - fo.length - 1) else 0) ⟨p1, ?_, ?_⟩ (.keep (.keep (.keep (.keep (.keep (.drop (.drop (.drop .nil)))))))))
        · simp
          omega
        · by_cases hk : fo.length < k
          · rw [if_pos hk] at hb ⊢
            obtain ⟨r, hr⟩ : ∃ r, k - fo.length = r + 1 := ⟨k - fo.length - 1, by omega⟩
            have e3 : k - fo.length - 1 = r := by omega
            rw [e3] at hb
            rw [p3, hr, show r + 1 - 1 = r from rfl]
            simp only [pickF, hdl]
            rw [if_neg hb]
            simp
          · rw [if_neg hk]
            have e3 : k - fo.length = 0 := by omega
            rw [p3, e3]
            simp only [pickF, Nat.sub_zero]
            simp
  · obtain ⟨fo, le, n⟩ := s
    obtain ⟨p1, p2, p3⟩ := ps
    dsimp only at p1 p2 p3
    rw [enumL_length, List.drop_length] at p3
    refine to_go (go_frz 3 rRs rfl frz_L (go_frz 4 rRs rfl frz_L (go_ret (ev_tup2 (ev_var (i := 3) rfl) (ev_var (i := 4) rfl)) fun v G H st r => hq v G H st ?_)))
    rw [p3]
    simp only [pickF, List.append_nil]
    exact r
theorem sc_ordered : FnScope ["some", "number", "left", "found", "at"] ["some", "number"] (defScope s_ordered) := ⟨rfl, rfl, rfl, by decide +kernel, rfl, by decide +kernel, by decide +kernel⟩
theorem ok_ordered {f : Addr} {fd : FuncData} (Df : Def K mg "ordered" s_ordered ["some", "number"] f fd) (B : Bn mg) :
    Pr P w K mg base CX0 (0 + 1) "ordered" ["some", "number"] (spOrdered T) := by
  refine fn_O Df sc_ordered (fun _ => rfl) fun cdv A outer s H E hr => ⟨_, (pss_cons (ps_set (i := 2) sc_ordered.nd rfl (.inl rfl) (pe_callTy call_list_of (by rfl) B.list PyProof.Rows.boot_list (pa_cons (pv 0) pa_nil)))
    (pss_cons (ps_set (i := 3) sc_ordered.nd rfl (.inl rfl) (pe_lst pa_nil))
    (pss_cons (ps_while PassesOwn.never (pt_cmpR op_gt (pe_callB call_len_seq (by rfl) B.len PySem.boot_len (pa_cons (pv 2) pa_nil)) pe_int (nomark _)) (pss_cons (ps_par (i := 1) (j := 4) rfl sc_ordered.nd rfl rfl (by decide) rfl rfl (pa_cons (pe_op op_fdivW (pv 1) (pe_callB call_len_seq (by rfl) B.len PySem.boot_len (pa_cons (pv 2) pa_nil))) (pa_cons (pe_op op_mod (pv 1) (pe_callB call_len_seq (by rfl) B.len PySem.boot_len (pa_cons (pv 2) pa_nil))) pa_nil)) (by rfl))
    (pss_one (ps_expr (pe_bm PySem.F.plainAttrs_list PySem.F.slot_list_append PySem.F.type_list_append mt_append (pv 3) (pa_cons (pe_bm PySem.F.plainAttrs_list PySem.F.slot_list_pop PySem.F.type_list_pop mt_popAt (pv 2) (pa_cons (pv 4) pa_nil)) pa_nil))))))
    (pss_one (ps_ret (pv 3)))))), fun i G0 H0 D hp hq hn => ?_⟩
  obtain ⟨xs, n0⟩ := i
  dsimp only at hp hq ⊢
  refine go_seq (go_asgO (eo_list (ev_var (i := 0) rfl)) (to_go ?_))
  refine go_seq (go_asgO (eo_lst0 (R := rL rN)) (to_go ?_))
  refine go_seq (go_whileS (fun s : List (List Nat) × List (List Nat) × Nat => [.val rRs xs, .val rN s.2.2, .own (oL (rL rN)) s.1, .own (oL (rL rN)) s.2.1, .no])
    (fun s => s.1.length + s.2.1.length = xs.length ∧ orderF xs.length xs n0 = s.2.1 ++ orderF s.1.length s.1 s.2.2) (fun s => s.1.length) (fun s => decide (0 < s.1.length)) (xs, [], n0) Wk.refl ⟨rfl, rfl⟩ (fun s ps => eb_test (ev_gtN (ev_lenO (i := 2) rfl) (ev_k (n := 0) rfl))) (fun s ps hb => ?_) fun s ps hb => ?_)
  · obtain ⟨le, fo, n⟩ := s
    obtain ⟨p1, p2⟩ := ps
    dsimp only at p1 p2
    have hb : 0 < le.length := of_decide_eq_true hb
    have hm : n % le.length < le.length := Nat.mod_lt _ hb
    refine go_seq (go_parEE (by decide) (ev_divN (ev_var (i := 1) rfl) (ev_lenO (i := 2) rfl) hb (Nat.lt_of_le_of_lt (Nat.log2_le_self _) (show le.length < 9000 by omega))) (ev_modN (ev_var (i := 1) rfl) (ev_lenO (i := 2) rfl) hb) (to_go ?_))
    refine go_appPop (i := 2) (j := 3) (k := n % le.length) (x := le[n % le.length]) (by decide) rfl rfl (show fo.length < 100000 by omega) (List.getElem?_eq_getElem hm) (ev_var (i := 4) rfl) (to_S (le.eraseIdx (n % le.length), fo ++ [le[n % le.length]], n / le.length) ⟨⟨?_, ?_⟩, ?_⟩ (.keep (.keep (.keep (.keep (.drop .nil))))))
    · dsimp only
      rw [List.length_eraseIdx_of_lt hm, List.length_append]
      simp
      omega
    · dsimp only
      obtain ⟨k, hk⟩ : ∃ k, le.length = k + 1 := ⟨le.length - 1, by omega⟩
      rw [p2, List.length_eraseIdx_of_lt hm]
      conv => lhs; rw [hk]
      simp only [orderF, List.getElem?_eq_getElem hm]
      rw [show le.length - 1 = k by omega, List.append_assoc]
      rfl
    · dsimp only
      rw [List.length_eraseIdx_of_lt hm]
      omega
  · obtain ⟨le, fo, n⟩ := s
    obtain ⟨p1, p2⟩ := ps
    dsimp only at p1 p2
    have hb : ¬ 0 < le.length := of_decide_eq_false hb
    have e : le.length = 0 := by omega
    rw [e] at p2
    refine to_go (go_retV (i := 3) (x := fo) rfl fun v G H F st fr r => hq v G H F st fr ?_)
    rw [p2]
    simp only [orderF, List.append_nil]
    exact r
end
end AO
set_option Elab.async false
set_option linter.all false
set_option maxRecDepth 100000
set_option maxHeartbeats 1000000
/-! AOMut: a def that changes the list it is handed. -/
namespace AO
universe u v
open PySem L2
def cutH (H : Hp) (p : Addr) : Hp := fun b => if b = p then none else H b
theorem cut_same {H : Hp} {p : Addr} : cutH H p p = none := if_pos rfl
theorem cut_ne {H : Hp} {p b : Addr} (h : b ≠ p) : cutH H p b = H b := if_neg h
theorem cut_some {H : Hp} {p b : Addr} {o : HO} (h : cutH H p b = some o) : b ≠ p ∧ H b = some o := by
  by_cases e : b = p
  · rw [e, cut_same] at h
    cases h
  · rw [cut_ne e] at h
    exact ⟨e, h⟩
/-- an own list that stands at p -/
def oLp {α : Type} (p : Addr) (R : Rep α) : Own (List α) := ⟨fun G F v xs => v = .ref p ∧ ∃ vs, F = one p (.lst vs) ∧ vs.length ≤ 100000 ∧ All2 (R.r G) vs xs, fun e ⟨h0, vs, h2, hl, h3⟩ => ⟨h0, vs, h2, hl, h3.imp fun _ _ => R.mono e⟩⟩
section
variable (T : List (Addr × Str))
variable {ι α : Type}
def spM (R : Rep α) (cs : ι → List Cell) (pre : ι → List α → Prop) (f : ι → List α → List α) : Sp := fun vs H Q _ => ∃ (i : ι) (xs : List α) (G : Hp) (p : Addr) (ws rest : List V), vs = .ref p :: rest ∧ pre i xs ∧ Mid T G (cutH H p) ∧ G p = none ∧ H p = some (.lst ws) ∧ ws.length ≤ 100000 ∧ All2 (R.r G) ws xs ∧ HoldA G rest (cs i) ∧
  ∀ G' H' ws', Step T G (cutH H p) G' H' → G' p = none → H' p = some (.lst ws') → ws'.length ≤ 100000 → All2 (R.r G') ws' (f i xs) → Q .non H'
end
section
variable {T : List (Addr × Str)} {G0 H0 : Hp} {es es2 : List Cell} {ι α β : Type} {R : Rep α} {x : α} {te tb : TE} {D : Ends} {K : PySem.W.Frag} {E : XK} {tA : TA}
theorem go_setP {i k : Nat} {p : Addr} {xs : List α} (hx : es[i]? = some (.own (oLp p R) xs)) (hk : k < xs.length) (h : EvE T R te es x) (hi : EvE T rN tb es k) (c : To T G0 H0 D.nx (es.set i (.own (oLp p R) (xs.set k x)))) :
    Go T G0 H0 (tAsg te (gSub (tVar i) tb rSetL)) D es := fun G H σ F m => by
  obtain ⟨v, hv, rfl, vs, hF, hl, ha⟩ := m.own hx
  have hp : H p = some (.lst vs) := (m.en.sub i p _ (by rw [hF, one_same])).1
  have hlen : vs.length = xs.length := ha.length
  refine h G0 H0 G H σ F m _ fun v G1 H1 s1 r1 => ⟨_, hv, hi G0 H0 G1 H1 σ F (m.step s1) _ fun w G2 H2 s2 r2 => ?_⟩
  have m2 := (m.step s1).step s2
  have hp2 : H2 p = some (.lst vs) := s2.h p _ (s1.h p _ hp (fun _ z => by cases z)) (fun _ z => by cases z)
  exact ⟨p, vs, _, k, rfl, r2, hp2, Evl.ixN_nat (by omega), c G2 _ _ _ (m2.upd hF pl_lst hv ⟨rfl, vs.set k v, rfl, by rw [List.length_set]; omega, All2.set (R.mono s2.g r1) k (ha.imp fun _ _ h => R.mono s2.g (R.mono s1.g h))⟩)⟩
theorem at_startM {G H : Hp} {p : Addr} {ws rest : List V} {xs : List α} {cs : List Cell} {N : List Str} {n : Nat} (m : Mid T G (cutH H p)) (hg : G p = none) (hp : H p = some (.lst ws)) (hl : ws.length ≤ 100000) (ha : All2 (R.r G) ws xs) (h : HoldA G rest cs) (hn : N.length - (rest.length + 1) = n) :
    At T G (cutH H p) G H (L2.start N (.ref p :: rest)) (fun j => if j = 0 then one p (.lst ws) else none0) ((.own (oLp p R) xs :: cs) ++ List.replicate n .no) := by
  have up : ∀ b o, cutH H p b = some o → H b = some o := fun b o e => (cut_some e).2
  refine ⟨⟨⟨fun b o e => up b o (m.ex b o e), m.nt, LamX.Tabs.ext m.tb up⟩, fun _ _ e => e, LamX.ExtN.of up, fun _ _ _ _ n => n⟩, ?_, fun i c hc => ?_, fun i b o z => ?_, fun i j b hij z => ?_⟩
  · unfold L2.start
    simp only [List.length_append, List.length_cons, List.length_map, List.length_replicate]
    rw [← h.length, ← hn]
  · cases i with
    | zero =>
      cases hc
      exact ⟨.ref p, rfl, rfl, ws, if_pos rfl, hl, ha⟩
    | succ i =>
      rw [if_neg (Nat.succ_ne_zero i)]
      have := hold_app h n i c hc
      unfold L2.start
      rw [show N.length - ((V.ref p :: rest).length) = n from hn]
      exact this
  · by_cases e : i = 0
    · subst e
      rw [if_pos rfl] at z
      obtain ⟨rfl, rfl⟩ := one_some z
      exact ⟨hp, hg, nw_none cut_same, pl_lst⟩
    · rw [if_neg e] at z
      cases z
  · by_cases e : i = 0
    · subst e
      exact if_neg (Ne.symm hij) ▸ rfl
    · rw [if_neg e] at z
      exact absurd rfl z
/-- x(xs, ..), xs changed -/
theorem go_callM {i : Nat} {cs : ι → List Cell} {pre : ι → List α → Prop} {f : ι → List α → List α} {xs : List α} (j : ι) (hx : es[i]? = some (.own (oL R) xs)) (hA : EvA T tA es (cs j)) (hp : pre j xs) (c : To T G0 H0 D.nx (es.set i (.own (oL R) (f j xs)))) :
    Go T G0 H0 (tDrop (tCall (spM T R cs pre f) [] E (tCons (tVar i) tA))) D es := fun G H σ F m => by
  obtain ⟨p, ws, hv, hF, hpH, hl, ha⟩ := m.list hx
  refine ⟨_, hv, hA G0 H0 G H σ F m _ fun vs G1 H1 s1 r1 => ?_⟩
  have m1 := m.step s1
  have hFp : F i p = some (.lst ws) := by rw [hF, one_same]
  obtain ⟨h1, h2, h3, h4⟩ := m1.en.sub i p _ hFp
  show spM T R cs pre f (V.ref p :: vs ++ []) H1 (fun x H1 => D.nx σ H1) E
  rw [List.append_nil]
  have tabC : LamX.Tabs T (cutH H1 p) := fun q hq => by
    obtain ⟨ps, a1, a2, a3⟩ := m1.m.tb q hq
    have n1 : q.1 ≠ p := fun e => by
      rw [e, h1] at a1
      cases a1
    refine ⟨ps, by rw [cut_ne n1]; exact a1, a2, fun pos cv hc => ?_⟩
    obtain ⟨c, e1, e2⟩ := a3 pos cv hc
    have n2 : c ≠ p := fun e => by
      rw [e, h1] at e2
      unfold LamX.CodeO at e2
      cases e2
    exact ⟨c, e1, by rw [cut_ne n2]; exact e2⟩
  have mc : Mid T G1 (cutH H1 p) := ⟨fun b o e => by
    have : b ≠ p := fun z => by
      rw [z, h2] at e
      cases e
    rw [cut_ne this]
    exact m1.m.ex b o e, m1.m.nt, tabC⟩
  refine ⟨j, xs, G1, p, ws, vs, rfl, hp, mc, h2, h1, hl, ha.imp fun _ _ => R.mono s1.g, r1, fun G' H' ws' s gp hp' hl' ha' => ?_⟩
  have nH0 : ∀ b o, H0 b = some o → (∀ ps, o ≠ .tbl ps) → b ≠ p := fun b o e hn z => by
    rw [z] at e
    obtain ⟨ps, hps⟩ := h3 o e
    exact hn ps hps
  have key : At T G0 H0 G' H' σ (setF F i (one p (.lst ws'))) (es.set i (.own (oL R) (f j xs))) := by
    refine ⟨⟨s.m, Evl.Ex.trans m1.st.g s.g, fun b o e hn => s.h b o (by rw [cut_ne (nH0 b o e hn)]; exact m1.st.h b o e hn) hn, fun b o e hn g => s.n b o (by rw [cut_ne (nH0 b o e hn)]; exact m1.st.h b o e hn) hn (m1.st.n b o e hn g)⟩, by rw [List.length_set]; exact m.ln, fun k d hk => ?_, fun k b o hb => ?_, fun k l b hkl hb => ?_⟩
    · rcases set_get hk with ⟨rfl, rfl, _⟩ | ⟨hki, hk⟩
      · rw [setF_same]
        exact ⟨.ref p, hv, p, ws', rfl, rfl, hl', ha'⟩
      · rw [setF_ne hki]
        exact Cell.mono s.g (m1.en.at_ k d hk)
    · by_cases e : k = i
      · subst e
        rw [setF_same] at hb
        obtain ⟨rfl, rfl⟩ := one_some hb
        exact ⟨hp', gp, h3, pl_lst⟩
      · rw [setF_ne e] at hb
        obtain ⟨b1, b2, b3, b4⟩ := m1.en.sub k b o hb
        have hbp : b ≠ p := fun z => by
          have := m.en.dis i k p (Ne.symm e) (by rw [hFp]; simp)
          rw [← z, hb] at this
          cases this
        have b5 : cutH H1 p b = some o := by rw [cut_ne hbp]; exact b1
        exact ⟨s.h b o b5 b4.1, s.n b o b5 b4.1 b2, b3, b4⟩
    · by_cases e : k = i
      · subst e
        rw [setF_same] at hb
        rw [setF_ne (Ne.symm hkl)]
        have : b = p := by
          cases z : one p (.lst ws') b with
          | none => exact absurd z hb
          | some u => exact (one_some z).1
        rw [this]
        exact m.en.dis k l p hkl (by rw [hFp]; simp)
      · rw [setF_ne e] at hb
        by_cases e2 : l = i
        · subst e2
          rw [setF_same]
          have hbp : b ≠ p := fun z => by
            have := m.en.dis l k p (Ne.symm e) (by rw [hFp]; simp)
            rw [← z] at this
            exact hb this
          exact one_ne hbp
        · rw [setF_ne e2]
          exact m.en.dis k l b hkl hb
  exact c G' H' σ _ key
end
section
variable {P : Program} {w : World} {K : PySem.W.Frag} {mg : Str → Option Value} {base : Heap} {T : List (Addr × Str)} {ι α : Type}
theorem fn_M {x : Str} {st : Stmt} {ps N : List Str} {f : Addr} {fd : FuncData} {k : Nat} {R : Rep α} {cs : ι → List Cell} {pre : ι → List α → Prop} {g : ι → List α → List α} (D : Def K mg x st ps f fd) (S : FnScope N ps (defScope st)) (hl : ∀ i, (cs i).length + 1 = ps.length)
    (hb : ∀ (cdv : Value) (A : Around) (outer : List Env) (s : Shared) (H : Hp) (E : XK), Room k (A.deeper (PyProof.Rows.envOfC x (defScope st) s.heap.objs.size f cdv)) → ∃ t, PSs (cxOf CX0 P w K mg base N x (defScope st) f cdv A outer s H E).nox (defBody st) t ∧
      ∀ (i : ι) (p : Addr) (xs : List α) (G0 H0 : Hp) (D : Ends), pre i xs → (∀ G H σ F c es, At T G0 H0 G H σ F (.own (oLp p R) (g i xs) :: c :: es) → D.nx σ H) → Go T G0 H0 t D ((.own (oLp p R) xs :: cs i) ++ List.replicate (N.length - ps.length) .no)) :
    Pr P w K mg base CX0 (k + 1) x ps (spM T R cs pre g) := by
  refine D.pr (D.F.ok S (fun vs H Q E ⟨i, xs, G, p, ws, rest, e, _, _, _, _, _, _, ha, _⟩ => by
    rw [e, List.length_cons, ha.length]
    exact hl i) fun cdv A outer s H vs Q E hr hsp => ?_)
  obtain ⟨i, xs, G, p, ws, rest, rfl, hp, m, hg, hpp, hlw, haw, ha, q⟩ := hsp
  obtain ⟨t, ht, hgo⟩ := hb cdv A outer s H E hr
  have hlen : rest.length + 1 = ps.length := by
    rw [ha.length]
    exact hl i
  refine ⟨t, PSs.nox ht, hgo i p xs G (cutH H p) _ hp (fun G' H' σ' F' c es m' => ?_) G H _ _ (at_startM m hg hpp hlw haw ha (by rw [hlen]))⟩
  obtain ⟨v, hv, rfl, ws', hF, hl', ha'⟩ := m'.own (i := 0) rfl
  obtain ⟨b1, b2, _, _⟩ := m'.en.sub 0 p _ (by rw [hF, one_same])
  exact q G' H' ws' m'.st b2 b1 hl' ha'
end
end AO
set_option Elab.async false
set_option linter.all false
set_option maxRecDepth 100000
set_option maxHeartbeats 4000000
/-! AOR4: weaving, walked. -/
namespace AO
open PySem L2
theorem setAll_mem : ∀ {ps : List (Nat × Nat)} {f : List Nat} {x : Nat}, x ∈ setAll f ps → x ∈ f ∨ ∃ p ∈ ps, x = p.2
  | [], _, _, h => .inl h
  | p :: ps, f, x, h => by
    rcases setAll_mem (ps := ps) (f := f.set p.1 p.2) h with h | ⟨q, h1, h2⟩
    · rcases List.mem_or_eq_of_mem_set h with h | h
      · exact .inl h
      · exact .inr ⟨p, List.mem_cons_self .., h⟩
    · exact .inr ⟨q, List.mem_cons_of_mem _ h1, h2⟩
theorem flat_take {α β : Type} (f : α → List β) (xs : List α) (i : Nat) {x : α} (h : xs[i]? = some x) : (xs.take (i + 1)).flatMap f = (xs.take i).flatMap f ++ f x := by
  rw [List.take_add_one, h, List.flatMap_append]
  simp
/-- rings of one length, at most 64 of at most 64 things -/
structure OkRs (rs : List (List Nat)) (l n : Nat) : Prop where
  len : ∀ r ∈ rs, r.length = l
  pos : 0 < rs.length
  lpos : 0 < l
  few : rs.length ≤ 64
  lfew : l ≤ 64
  lt : ∀ r ∈ rs, ∀ x ∈ r, x < n
theorem OkRs.head {rs : List (List Nat)} {l n : Nat} (h : OkRs rs l n) : (rs.getD 0 []).length = l := by
  have hp := h.pos
  rw [List.getD_eq_getElem?_getD, List.getElem?_eq_getElem hp]
  exact h.len _ (List.getElem_mem hp)
theorem OkRs.L {rs : List (List Nat)} {l n : Nat} (h : OkRs rs l n) : 0 < rs.length * (rs.getD 0 []).length ∧ rs.length * (rs.getD 0 []).length ≤ 4096 := by
  rw [h.head]
  exact ⟨Nat.mul_pos h.pos h.lpos, Nat.mul_le_mul h.few h.lfew⟩
theorem whole_length (rs : List (List Nat)) (t : Nat) : (wholeF rs t).length = rs.length * (rs.getD 0 []).length := by
  unfold wholeF
  rw [setAll_length, List.length_replicate]
theorem OkRs.whole_lt {rs : List (List Nat)} {l n : Nat} (h : OkRs rs l n) (t : Nat) : ∀ x ∈ wholeF rs t, x < n := fun x hx => by
  have hn : 0 < n := by
    have h0 := h.pos
    have hr := List.getElem_mem h0
    have hl := h.len _ hr
    have hx0 : 0 < (rs[0]).length := by
      rw [hl]
      exact h.lpos
    have := h.lt _ hr _ (List.getElem_mem hx0)
    omega
  unfold wholeF at hx
  rcases setAll_mem hx with hx | ⟨p, hp, rfl⟩
  · have := (List.mem_replicate.mp hx).2
    omega
  · obtain ⟨q, hq, hp⟩ := List.mem_flatMap.mp hp
    obtain ⟨u, hu, rfl⟩ := List.mem_map.mp hp
    exact h.lt _ (List.of_mem_zip hq).2 _ (List.of_mem_zip hu).2
section
variable {P : Program} {w : World} {K : PySem.W.Frag} {mg : Str → Option Value} {base : Heap} {T : List (Addr × Str)}
abbrev spWoven (T : List (Addr × Str)) : Sp := spM T rN (fun i : List (List Nat) × Nat => [.val rRs i.1, .val rN i.2]) (fun i root => (∃ l, OkRs i.1 l root.length) ∧ i.2 < 2 ^ 4000) fun i root => wovenF root i.1 i.2
theorem sc_woven : FnScope ["root", "rings", "times", "size", "length", "whole", "at", "ring", "turn", "thing"] ["root", "rings", "times"] (defScope s_woven) := ⟨rfl, rfl, rfl, by decide +kernel, rfl, by decide +kernel, by decide +kernel⟩
theorem ok_woven {f : Addr} {fd : FuncData} (Df : Def K mg "woven" s_woven ["root", "rings", "times"] f fd) (B : Bn mg) :
    Pr P w K mg base CX0 (0 + 1) "woven" ["root", "rings", "times"] (spWoven T) := by
  refine fn_M Df sc_woven (fun _ => rfl) fun cdv A outer s H E hr => ⟨_, (pss_cons (ps_par (i := 3) (j := 4) rfl sc_woven.nd rfl rfl (by decide) rfl rfl (pa_cons (pe_callB call_len_seq (by rfl) B.len PySem.boot_len (pa_cons (pv 1) pa_nil)) (pa_cons (pe_callB call_len_seq (by rfl) B.len PySem.boot_len (pa_cons (pe_ix ix_list (pv 1) pe_int (fun _ _ => rfl)) pa_nil)) pa_nil)) (by rfl))
    (pss_cons (ps_set (i := 5) sc_woven.nd rfl (.inl rfl) (pe_op op_rep (pe_lst (pa_cons pe_int pa_nil)) (pe_op op_mulB (pv 3) (pv 4))))
    (pss_cons (ps_for PassesOwn.never rfl (pi_enum (by rfl) B.enumerate (pa_cons (pv 1) pa_nil)) (pg_tup rfl (pgs_cons (pg_name (i := 6) sc_woven.nd rfl (.inl rfl)) (pgs_cons (pg_name (i := 7) sc_woven.nd rfl (.inl rfl)) pgs_nil))) (pss_one (ps_for PassesOwn.never rfl (pi_enum (by rfl) B.enumerate (pa_cons (pv 7) pa_nil)) (pg_tup rfl (pgs_cons (pg_name (i := 8) sc_woven.nd rfl (.inl rfl)) (pgs_cons (pg_name (i := 9) sc_woven.nd rfl (.inl rfl)) pgs_nil))) (pss_one (ps_asg (pv 9) (pg_sub (pv 5) (pe_op op_mod (pe_op op_add (pv 6) (pe_op op_mulB (pv 8) (pv 2))) (pe_callB call_len_seq (by rfl) B.len PySem.boot_len (pa_cons (pv 5) pa_nil))) set_list))))))
    (pss_one (ps_for PassesOwn.never rfl (pi_enum (by rfl) B.enumerate (pa_cons (pv 5) pa_nil)) (pg_tup rfl (pgs_cons (pg_name (i := 6) sc_woven.nd rfl (.inl rfl)) (pgs_cons (pg_name (i := 9) sc_woven.nd rfl (.inl rfl)) pgs_nil))) (pss_one (ps_asg (pe_ix ix_list (pv 5) (pe_op op_mod (pe_op op_add (pv 6) pe_int) (pe_callB call_len_seq (by rfl) B.len PySem.boot_len (pa_cons (pv 5) pa_nil))) (fun _ _ => rfl)) (pg_sub (pv 0) (pv 9) set_list)))))))), fun i p root G0 H0 D hp hn => ?_⟩
  obtain ⟨rs, t⟩ := i
  obtain ⟨⟨l, hO⟩, ht⟩ := hp
  dsimp only at hO ht hn ⊢
  have hL := hO.L
  have hh := hO.head
  have hW := whole_length rs t
  have hlt := hO.whole_lt t
  generalize hLe : rs.length * (rs.getD 0 []).length = L at hL hW
  have g0 : rs[0]? = some (rs.getD 0 []) := by
    rw [List.getD_eq_getElem?_getD, List.getElem?_eq_getElem hO.pos]
    rfl
  refine go_seq (go_parEE (by decide) (ev_len (ev_var (i := 1) rfl)) (ev_len (ev_ixL (ev_var (i := 1) rfl) (ev_k (n := 0) rfl) g0)) (to_go ?_))
  refine go_seq (go_asgO (eo_rep (n := L) (ev_frz frz_L (eo_lst (xs := [0]) (ea_cons (ev_k rfl) ea_nil) (by simp))) (ev_is (ev_mulN (ev_var (i := 3) rfl) (ev_var (i := 4) rfl) (mulok_nat (show rs.length < 2 ^ 10 by have := hO.few; omega) (show (rs.getD 0 []).length < 2 ^ 10 by rw [hh]; have := hO.lfew; omega) (by omega) (by omega) (by omega))) hLe) (by omega)) (to_go ?_))
  refine go_seq (go_forS (xs := enumL rs) [6, 7] (fun s : List Nat => [.own (oLp p rN) root, .val rRs rs, .val rN t, .val rN rs.length, .val rN (rs.getD 0 []).length, .own (oL rN) s, .no, .no, .no, .no])
    (fun i s => s = setAll (List.replicate L 0) (((enumL rs).take i).flatMap fun p => (enumL p.2).map fun q => ((p.1 + q.1 * t) % L, q.2))) (List.replicate L 0) (evi_enum (ev_var (i := 1) rfl)) Wk.refl (by simp [setAll]) (fun G1 sh i q s hx ps => ?_) fun s ps => ?_)
  · refine ⟨_, tg_tup (R := rN) (S := rL rN) tg_name tg_name, ?_⟩
    have hsl : s.length = L := by rw [ps, setAll_length, List.length_replicate]
    have hqr : q.2 ∈ rs := List.mem_of_getElem? (enumL_get hx).2
    have hql := hO.len _ hqr
    refine go_forS (xs := enumL q.2) [8, 9] (fun s' : List Nat => [.own (oLp p rN) root, .val rRs rs, .val rN t, .val rN rs.length, .val rN (rs.getD 0 []).length, .own (oL rN) s', .val rN q.1, .val (rL rN) q.2, .no, .no])
      (fun j s' => s' = setAll s (((enumL q.2).map fun u => ((q.1 + u.1 * t) % L, u.2)).take j)) s (evi_enum (ev_var (i := 7) rfl)) Wk.refl (by simp [setAll]) (fun G2 sh2 j u s2 hu ps2 => ?_) fun s2 ps2 => ?_
    · refine ⟨_, tg_tup (R := rN) (S := rN) tg_name tg_name, ?_⟩
      have hs2 : s2.length = L := by rw [ps2, setAll_length, hsl]
      obtain ⟨u1, u2⟩ := enumL_get hu
      have huj : u.1 < 64 := by
        have := (List.getElem?_eq_some_iff.mp u2).1
        have := hO.lfew
        omega
      refine go_setL (i := 5) (k := (q.1 + u.1 * t) % L) rfl (by rw [hs2]; exact Nat.mod_lt _ hL.1) (ev_var (i := 9) rfl) (ev_is (ev_modN (ev_addN (ev_var (i := 6) rfl) (ev_mulN (ev_var (i := 8) rfl) (ev_var (i := 2) rfl) (mulok_nat (show u.1 < 2 ^ 10 by omega) ht (by omega) (by omega) (by omega)))) (ev_lenO (i := 5) rfl) (by rw [hs2]; exact hL.1)) (by rw [hs2])) (to_S (s2.set ((q.1 + u.1 * t) % L) u.2) ?_ (.keep (.keep (.keep (.keep (.keep (.keep (.keep (.keep (.drop (.drop .nil)))))))))))
      rw [List.take_add_one, List.getElem?_map, hu, ps2]
      show _ = setAll s (_ ++ [_])
      rw [setAll_app]
      rfl
    · refine to_S s2 ?_ (.keep (.keep (.keep (.keep (.keep (.keep (.drop (.drop (.keep (.keep .nil))))))))))
      rw [ps2, List.take_of_length_le (by simp), flat_take _ _ _ hx, setAll_app, ← ps]
  · have e : s = wholeF rs t := by
      rw [ps, List.take_of_length_le (Nat.le_refl _)]
      unfold wholeF placesF
      rw [hLe]
      rfl
    subst e
    refine to_go (go_frz 5 (rL rN) rfl frz_L ?_)
    have hg : ∀ {k : Nat}, k < (wholeF rs t).length → (wholeF rs t)[k]? = some ((wholeF rs t).getD k 0) := fun {k} hk => by
      rw [List.getD_eq_getElem?_getD, List.getElem?_eq_getElem hk]
      rfl
    refine go_forS (xs := enumL (wholeF rs t)) [6, 9] (fun s : List Nat => [.own (oLp p rN) s, .val rRs rs, .val rN t, .val rN rs.length, .val rN (rs.getD 0 []).length, .val (rL rN) (wholeF rs t), .no, .no, .no, .no])
      (fun i s => s = setAll root ((ringPairs (wholeF rs t)).take i)) root (evi_enum (ev_var (i := 5) rfl)) Wk.refl (by simp [setAll]) (fun G1 sh i q s hx ps => ?_) fun s ps => ?_
    · refine ⟨_, tg_tup (R := rN) (S := rN) tg_name tg_name, ?_⟩
      obtain ⟨q1, q2⟩ := enumL_get hx
      have hil := (List.getElem?_eq_some_iff.mp q2).1
      have hm : (q.1 + 1) % (wholeF rs t).length < (wholeF rs t).length := Nat.mod_lt _ (by omega)
      refine go_setP (i := 0) (k := q.2) rfl ?_ (ev_ixL (ev_var (i := 5) rfl) (ev_modN (ev_addN (ev_var (i := 6) rfl) (ev_k (n := 1) rfl)) (ev_len (ev_var (i := 5) rfl)) (by omega)) (hg hm)) (ev_var (i := 9) rfl) (to_S (s.set q.2 ((wholeF rs t).getD ((q.1 + 1) % (wholeF rs t).length) 0)) ?_ (.keep (.keep (.keep (.keep (.keep (.keep (.drop (.keep (.keep (.drop .nil)))))))))))
      · rw [ps, setAll_length]
        exact hlt _ (List.mem_of_getElem? q2)
      · have hrp : (ringPairs (wholeF rs t))[i]? = some (q.2, (wholeF rs t).getD ((q.1 + 1) % (wholeF rs t).length) 0) := by
          unfold ringPairs
          rw [List.getElem?_map, show ((List.range (wholeF rs t).length).zip (wholeF rs t))[i]? = some q from hx]
          rfl
        rw [List.take_add_one, hrp, ps]
        show _ = setAll root (_ ++ [_])
        rw [setAll_app]
        rfl
    · have e : s = wovenF root rs t := by
        rw [ps, List.take_of_length_le (by simp [ringPairs, enumL])]
        rfl
      subst e
      exact fun G H σ F m => hn G H σ F _ _ m
end
end AO
set_option Elab.async false
set_option linter.all false
/-! AOMathR5: picked, ordered and turned things are the things. -/
namespace AO
theorem pick_perm {α : Type} : ∀ (xs : List α) (r n : Nat), ((pickF xs r n).1 ++ (pickF xs r n).2).Perm xs
  | [], _, _ => List.Perm.refl _
  | x :: xs, 0, n => by
    show ((pickF xs 0 n).1 ++ x :: (pickF xs 0 n).2).Perm _
    exact List.perm_middle.trans ((pick_perm xs 0 n).cons x)
  | x :: xs, r + 1, n => by
    simp only [pickF]
    split
    · exact (pick_perm xs r n).cons x
    · exact List.perm_middle.trans ((pick_perm xs (r + 1) _).cons x)
theorem pick_size {α : Type} : ∀ (xs : List α) (r n : Nat), n < binom xs.length r → (pickF xs r n).1.length = r
  | [], 0, _, _ => rfl
  | [], r + 1, n, h => by
    have : binom 0 (r + 1) = 0 := rfl
    rw [show ([] : List α).length = 0 from rfl, this] at h
    omega
  | x :: xs, 0, n, h => by
    show (pickF xs 0 n).1.length = 0
    refine pick_size xs 0 n ?_
    rw [binom_zero] at h ⊢
    exact h
  | x :: xs, r + 1, n, h => by
    have h : n < binom xs.length r + binom xs.length (r + 1) := h
    simp only [pickF]
    split
    · rename_i hn
      rw [List.length_cons, pick_size xs r n hn]
    · exact pick_size xs (r + 1) _ (by omega)
theorem erase_permG {α : Type} : ∀ {l : List α} {i : Nat} (h : i < l.length), (l[i] :: l.eraseIdx i).Perm l
  | a :: l, 0, _ => List.Perm.refl _
  | a :: l, i + 1, h => (List.Perm.swap a _ _).trans ((erase_permG (l := l) (i := i) (by simpa using h)).cons a)
theorem order_perm {α : Type} : ∀ (k : Nat) (left : List α) (n : Nat), left.length = k → (orderF k left n).Perm left
  | 0, left, n, h => by
    rw [List.length_eq_zero_iff.mp h]
    exact List.Perm.refl _
  | k + 1, left, n, h => by
    have hm : n % left.length < left.length := Nat.mod_lt _ (by omega)
    simp only [orderF, List.getElem?_eq_getElem hm]
    exact ((order_perm k (left.eraseIdx (n % left.length)) (n / left.length) (by rw [List.length_eraseIdx_of_lt hm]; omega)).cons _).trans (erase_permG hm)
theorem turn_length (l : Nat) : ∀ (rs : List (List Nat)) (t : Nat), (turnF l rs t).length = rs.length
  | [], _ => rfl
  | r :: rs, t => by
    show (turnF l rs (t / l)).length + 1 = rs.length + 1
    rw [turn_length l rs]
theorem turn_mem {l : Nat} : ∀ {rs : List (List Nat)} {t : Nat} {x : List Nat}, x ∈ turnF l rs t → ∃ r ∈ rs, ∃ k, k ≤ t ∧ x = r.drop (k % l) ++ r.take (k % l)
  | r :: rs, t, x, h => by
    rcases List.mem_cons.mp h with rfl | h
    · exact ⟨r, List.mem_cons_self .., t, Nat.le_refl t, rfl⟩
    · obtain ⟨r', h1, k, h2, h3⟩ := turn_mem h
      exact ⟨r', List.mem_cons_of_mem _ h1, k, Nat.le_trans h2 (Nat.div_le_self _ _), h3⟩
theorem rot_len (r : List Nat) (k : Nat) : (r.drop k ++ r.take k).length = r.length := by
  rw [List.length_append, List.length_drop, List.length_take]
  omega
theorem rot_mem {r : List Nat} {k x : Nat} : x ∈ r.drop k ++ r.take k ↔ x ∈ r := by
  have h := List.perm_append_comm (l₁ := r.drop k) (l₂ := r.take k)
  rw [List.take_append_drop] at h
  exact h.mem_iff
end AO
set_option Elab.async false
set_option linter.all false
set_option maxRecDepth 100000
set_option maxHeartbeats 8000000
/-! AOR5: root_of, walked. -/
namespace AO
open PySem L2
theorem go_asgG {T : List (Addr × Str)} {G0 H0 : Hp} {es es2 : List Cell} {α : Type} {R : Rep α} {x : α} {te : TE} {g : TG} {D : Ends} {js : List Nat} (h : EvE T R te es x) (tg : TgR T g R x js es es2) (k : To T G0 H0 D.nx es2) : Go T G0 H0 (tAsg te g) D es := fun G H σ F m =>
  h G0 H0 G H σ F m _ fun v G1 H1 s1 r1 => tg G0 H0 G1 H1 σ F v _ (m.step s1) r1 fun σ2 F2 m2 _ _ => k G1 H1 σ2 F2 m2
theorem log_lt {n k : Nat} (h : n < 2 ^ k) (hk : k < 9000) : n.log2 < 9000 := by
  by_cases h0 : n = 0
  · rw [h0]
    decide
  · have := (Nat.log2_lt h0).mpr h
    omega
theorem choose_step (bl : Nat → Nat) {gs : List Nat} {j s : Nat} (hj : gs[j]? = some s) (h : Nat) : chooseF bl (gs.drop j) h = if h < bl s then (s, h) else chooseF bl (gs.drop (j + 1)) (h - bl s) := by
  obtain ⟨hl, e⟩ := List.getElem?_eq_some_iff.mp hj
  rw [List.drop_eq_getElem_cons hl, e]
  rfl
theorem sum_drop (bl : Nat → Nat) {gs : List Nat} {j s : Nat} (hj : gs[j]? = some s) : ((gs.drop j).map bl).sum = bl s + ((gs.drop (j + 1)).map bl).sum := by
  obtain ⟨hl, e⟩ := List.getElem?_eq_some_iff.mp hj
  rw [List.drop_eq_getElem_cons hl, e, List.map_cons, List.sum_cons]
theorem inner_nil (l t k h : Nat) (root : List Nat) : innerF l t k [] h root = root := by cases k <;> rfl
/-- rings left: each of length l, of things below n -/
def OkLeft (l n : Nat) (left : List (List Nat)) : Prop := left.length ≤ 64 ∧ ∀ r ∈ left, r.length = l ∧ ∀ x ∈ r, x < n
section
variable {P : Program} {w : World} {K : PySem.W.Frag} {mg : Str → Option Value} {base : Heap} {T : List (Addr × Str)}
abbrev OkR (i : List Nat × Nat × Nat) : Prop := OkO i.1 ∧ 0 < i.2.1 ∧ i.2.1 < 2 ^ 4000 ∧ ∀ l ∈ lens i.1, 0 < wayN l i.2.1 (ofLen i.1 l).length
abbrev spRoot (T : List (Addr × Str)) : Sp := spO T (fun i : List Nat × Nat × Nat => [.val (rL rN) i.1, .val rN i.2.1, .val rN i.2.2]) OkR (oL rN) fun i => outerF i.2.1 (byLen i.1) i.2.2 (List.replicate i.1.length 0)
theorem sc_root_of : FnScope ["order", "times", "number", "root", "length", "rings", "ways", "here", "left", "size", "block", "after", "mine", "weave", "others", "rest", "turns", "some", "ring"] ["order", "times", "number"] (defScope s_root_of) := ⟨rfl, rfl, rfl, by decide +kernel, rfl, by decide +kernel, by decide +kernel⟩
theorem ok_root_of {f : Addr} {fd : FuncData} (Df : Def K mg "root_of" s_root_of ["order", "times", "number"] f fd) (B : Bn mg) (h_by_length : Pr P w K mg base CX0 4 "by_length" ["order"] (spBL T)) (h_ways_of : Pr P w K mg base CX0 4 "ways_of" ["length", "times", "many"] (spWays T)) (h_groups_of : Pr P w K mg base CX0 2 "groups_of" ["length", "times", "many"] (spGroups T))
    (h_begun_with : Pr P w K mg base CX0 3 "begun_with" ["length", "size", "many"] (spBegun T)) (h_weaves : Pr P w K mg base CX0 2 "weaves" ["length", "size"] (spWeaves T)) (h_picked : Pr P w K mg base CX0 2 "picked" ["some", "size", "number"] (spPicked T)) (h_power : Pr P w K mg base CX0 1 "power" ["number", "often"] (spPower T))
    (h_ordered : Pr P w K mg base CX0 1 "ordered" ["some", "number"] (spOrdered T)) (h_woven : Pr P w K mg base CX0 1 "woven" ["root", "rings", "times"] (spWoven T)) :
    Pr P w K mg base CX0 (4 + 1) "root_of" ["order", "times", "number"] (spRoot T) := by
  refine fn_O Df sc_root_of (fun _ => rfl) fun cdv A outer s H E hr => ⟨_, (pss_cons (ps_set (i := 3) sc_root_of.nd rfl (.inl rfl) (pe_op op_rep (pe_lst (pa_cons pe_int pa_nil)) (pe_callB call_len_seq (by rfl) B.len PySem.boot_len (pa_cons (pv 0) pa_nil))))
    (pss_cons (ps_for PassesOwn.never rfl (pi_items (pe_lk (pe_pr h_by_length (hr.mono (by decide)) (pa_cons (pv 0) pa_nil)))) (pg_tup rfl (pgs_cons (pg_name (i := 4) sc_root_of.nd rfl (.inl rfl)) (pgs_cons (pg_name (i := 5) sc_root_of.nd rfl (.inl rfl)) pgs_nil))) (pss_cons (ps_set (i := 6) sc_root_of.nd rfl (.inl rfl) (pe_pr h_ways_of (hr.mono (by decide)) (pa_cons (pv 4) (pa_cons (pv 1) (pa_cons (pe_callB call_len_seq (by rfl) B.len PySem.boot_len (pa_cons (pv 5) pa_nil)) pa_nil)))))
    (pss_cons (ps_par (i := 2) (j := 7) rfl sc_root_of.nd rfl rfl (by decide) rfl rfl (pa_cons (pe_op op_fdivW (pv 2) (pe_ix ix_list (pv 6) (pe_un un_neg pe_int) (fun _ _ => rfl))) (pa_cons (pe_op op_mod (pv 2) (pe_ix ix_list (pv 6) (pe_un un_neg pe_int) (fun _ _ => rfl))) pa_nil)) (by rfl))
    (pss_cons (ps_set (i := 8) sc_root_of.nd rfl (.inl rfl) (pv 5))
    (pss_one (ps_while PassesOwn.never (pt_cmpR op_gt (pe_callB call_len_seq (by rfl) B.len PySem.boot_len (pa_cons (pv 8) pa_nil)) pe_int (nomark _)) (Evl.pss_cut (ps_for PassesOwn.never rfl (pi_list (pe_pr h_groups_of (hr.mono (by decide)) (pa_cons (pv 4) (pa_cons (pv 1) (pa_cons (pe_callB call_len_seq (by rfl) B.len PySem.boot_len (pa_cons (pv 8) pa_nil)) pa_nil))))) (pg_name (i := 9) sc_root_of.nd rfl (.inl rfl)) (pss_cons (ps_set (i := 10) sc_root_of.nd rfl (.inl rfl) (pe_op op_mulB (pe_pr h_begun_with (hr.mono (by decide)) (pa_cons (pv 4) (pa_cons (pv 9) (pa_cons (pe_callB call_len_seq (by rfl) B.len PySem.boot_len (pa_cons (pv 8) pa_nil)) pa_nil)))) (pe_ix ix_list (pv 6) (pe_op op_sub (pe_callB call_len_seq (by rfl) B.len PySem.boot_len (pa_cons (pv 8) pa_nil)) (pv 9)) (fun _ _ => rfl))))
    (pss_cons (ps_if (pt_cmpR op_lt (pv 7) (pv 10) (nomark _)) (pss_one (ps_break)) (pss_nil))
    (pss_one (ps_aug (i := 7) sc_root_of.nd rfl (.inl rfl) (pv 10) ip_sub)))))
    (pss_cons (ps_set (i := 11) sc_root_of.nd rfl (.inl rfl) (pe_ix ix_list (pv 6) (pe_op op_sub (pe_callB call_len_seq (by rfl) B.len PySem.boot_len (pa_cons (pv 8) pa_nil)) (pv 9)) (fun _ _ => rfl)))
    (pss_cons (ps_par (i := 7) (j := 12) rfl sc_root_of.nd rfl rfl (by decide) rfl rfl (pa_cons (pe_op op_mod (pv 7) (pv 11)) (pa_cons (pe_op op_fdivW (pv 7) (pv 11)) pa_nil)) (by rfl))
    (pss_cons (ps_par (i := 12) (j := 13) rfl sc_root_of.nd rfl rfl (by decide) rfl rfl (pa_cons (pe_op op_fdivW (pv 12) (pe_pr h_weaves (hr.mono (by decide)) (pa_cons (pv 4) (pa_cons (pv 9) pa_nil)))) (pa_cons (pe_op op_mod (pv 12) (pe_pr h_weaves (hr.mono (by decide)) (pa_cons (pv 4) (pa_cons (pv 9) pa_nil)))) pa_nil)) (by rfl))
    (pss_cons (ps_asg (pe_pr h_picked (hr.mono (by decide)) (pa_cons (pe_slice sl_list (pv 8) (po_some pe_int) po_none) (pa_cons (pe_op op_sub (pv 9) pe_int) (pa_cons (pv 12) pa_nil)))) (pg_tup rfl (pgs_cons (pg_name (i := 14) sc_root_of.nd rfl (.inl rfl)) (pgs_cons (pg_name (i := 15) sc_root_of.nd rfl (.inl rfl)) pgs_nil))))
    (pss_cons (ps_par (i := 13) (j := 16) rfl sc_root_of.nd rfl rfl (by decide) rfl rfl (pa_cons (pe_op op_fdivW (pv 13) (pe_pr h_power (hr.mono (by decide)) (pa_cons (pv 4) (pa_cons (pe_op op_sub (pv 9) pe_int) pa_nil)))) (pa_cons (pe_op op_mod (pv 13) (pe_pr h_power (hr.mono (by decide)) (pa_cons (pv 4) (pa_cons (pe_op op_sub (pv 9) pe_int) pa_nil)))) pa_nil)) (by rfl))
    (pss_cons (ps_set (i := 17) sc_root_of.nd rfl (.inl rfl) (pe_lst (pa_cons (pe_ix ix_list (pv 8) pe_int (fun _ _ => rfl)) pa_nil)))
    (pss_cons (ps_for PassesOwn.never rfl (pi_list (pe_pr h_ordered (hr.mono (by decide)) (pa_cons (pv 14) (pa_cons (pv 13) pa_nil)))) (pg_name (i := 18) sc_root_of.nd rfl (.inl rfl)) (pss_cons (ps_expr (pe_bm PySem.F.plainAttrs_list PySem.F.slot_list_append PySem.F.type_list_append mt_append (pv 17) (pa_cons (pe_op op_cat (pe_slice sl_list (pv 18) (po_some (pe_op op_mod (pv 16) (pv 4))) po_none) (pe_slice sl_list (pv 18) po_none (po_some (pe_op op_mod (pv 16) (pv 4))))) pa_nil)))
    (pss_one (ps_set (i := 16) sc_root_of.nd rfl (.inl rfl) (pe_op op_fdivW (pv 16) (pv 4))))))
    (pss_cons (ps_expr (pe_pr h_woven (hr.mono (by decide)) (pa_cons (pv 3) (pa_cons (pv 17) (pa_cons (pv 1) pa_nil)))))
    (pss_one (ps_set (i := 8) sc_root_of.nd rfl (.inl rfl) (pv 15))))))))))))))))))
    (pss_one (ps_ret (pv 3))))), fun i G0 H0 D hp hq hn => ?_⟩
  obtain ⟨σ, t, n0⟩ := i
  obtain ⟨hO, ht0, ht, hw⟩ := hp
  dsimp only at hO ht0 ht hw hq ⊢
  have hP := hO.1
  have hz := hO.2
  refine go_seq (go_asgO (eo_rep (ev_frz frz_L (eo_lst (xs := [0]) (ea_cons (ev_k rfl) ea_nil) (by simp))) (ev_len (ev_var (i := 0) rfl)) (by omega)) (to_go ?_))
  refine go_seq (go_forS (xs := byLen σ) [4, 5] (fun s : Nat × List Nat => [.val (rL rN) σ, .val rN t, .val rN s.1, .own (oL rN) s.2, .no, .no, .no, .no, .no, .no, .no, .no, .no, .no, .no, .no, .no, .no, .no])
    (fun i s => outerF t (byLen σ) n0 (List.replicate σ.length 0) = outerF t ((byLen σ).drop i) s.1 s.2 ∧ s.2.length = σ.length) (n0, List.replicate σ.length 0)
    (evi_items (eo_call σ (ea_cons (ev_var (i := 0) rfl) ea_nil) (And.intro hP (show σ.length ≤ 70 by omega)))) Wk.refl ⟨rfl, by simp⟩ (fun G1 sh i p s hx ps => ?_) fun s ps => ?_)
  · obtain ⟨num, rt0⟩ := s
    obtain ⟨ps1, ps2⟩ := ps
    dsimp only at ps1 ps2
    have hil := (List.getElem?_eq_some_iff.mp hx).1
    have hdr : (byLen σ).drop i = p :: (byLen σ).drop (i + 1) := by
      rw [List.drop_eq_getElem_cons hil]
      congr 1
      rw [List.getElem?_eq_getElem hil] at hx
      exact Option.some.inj hx
    obtain ⟨l, hl, rfl⟩ : ∃ l ∈ lens σ, p = ((l : Int), ofLen σ l) := by
      obtain ⟨l, hl, e⟩ := List.mem_map.mp (List.mem_of_getElem? hx)
      exact ⟨l, hl, e.symm⟩
    rw [hdr] at ps1
    have hl64 := lens_lt64 hP hz hl
    have hW := hw l hl
    have hrl : (ofLen σ l).length ≤ 60 := by
      unfold ofLen
      exact Nat.le_trans (List.length_filter_le _ _) (Nat.le_trans rings_len hz)
    have hleft : OkLeft l σ.length (ofLen σ l) := ⟨by omega, fun r hr => ⟨(mem_ofLen.mp hr).2, fun x hx => by
      obtain ⟨s, hs, _, rfl⟩ := (mem_rings hP).mp (mem_ofLen.mp hr).1
      exact orb_lt hP hs hx⟩⟩
    generalize hrg : ofLen σ l = rings at *
    generalize hm : rings.length = m at *
    have hWl := way_lt (l := l) (t := t) (m := m) (by omega) (by omega) (by omega)
    refine ⟨_, tg_tup (R := rI) (S := rRs) tg_name tg_name, ?_⟩
    have eL : ∀ {es : List Cell}, es[4]? = some (.val rI (l : Int)) → EvE T rN (tVar 4) es l := fun h => ev_IN (ev_var h) rfl
    refine go_seq (go_asg (ev_frz frz_L (eo_call (l, t, m) (ea_cons (eL rfl) (ea_cons (ev_var (i := 1) rfl) (ea_cons (ev_is (ev_len (ev_var (i := 5) rfl)) hm) ea_nil))) (And.intro (show 1 ≤ l by omega) (And.intro (show l ≤ 64 by omega) (show m ≤ 64 by omega))))) (to_go ?_))
    have hlast : (wayL l t m).getLast? = some (wayN l t m) := by
      rw [List.getLast?_eq_getElem?, wayL_length]
      exact wayL_get l t (Nat.le_refl m)
    have eLast : ∀ {es : List Cell}, es[6]? = some (.val (rL rN) (wayL l t m)) → EvE T rN (tOp (rIxL K) (tVar 6) (tUn (L2.rU fun i => .int (-i)) (tC (.int 1)))) es (wayN l t m) := fun h => ev_ixLast (ev_var h) (ev_negI ev_int) hlast
    refine go_seq (go_parEE (by decide) (ev_divN (ev_var (i := 2) rfl) (eLast rfl) hW (log_lt hWl (by omega))) (ev_modN (ev_var (i := 2) rfl) (eLast rfl) hW) (to_go ?_))
    refine go_seq (go_asg (ev_var (R := rRs) (x := rings) (i := 5) rfl) (to_go ?_))
    dsimp only
    generalize hh0 : num % wayN l t m = here0
    have hh0l : here0 < wayN l t m := by rw [← hh0]; exact Nat.mod_lt _ hW
    refine go_whileS (fun s : List (List Nat) × Nat × List Nat => [.val (rL rN) σ, .val rN t, .val rN (num / wayN l t m), .own (oL rN) s.2.2, .val rI (l : Int), .val rRs rings, .val (rL rN) (wayL l t m), .val rN s.2.1, .val rRs s.1, .no, .no, .no, .no, .no, .no, .no, .no, .no, .no])
      (fun s => (∃ k, s.1.length ≤ k ∧ innerF l t m rings here0 rt0 = innerF l t k s.1 s.2.1 s.2.2) ∧ OkLeft l σ.length s.1 ∧ s.1.length ≤ m ∧ s.2.1 < wayN l t s.1.length ∧ s.2.2.length = σ.length) (fun s => s.1.length) (fun s => decide (0 < s.1.length)) (rings, here0, rt0) Wk.refl
      ⟨⟨m, by dsimp only; omega, rfl⟩, hleft, by dsimp only; omega, by dsimp only; rw [hm]; exact hh0l, ps2⟩ (fun s ps => eb_test (ev_gtN (ev_len (ev_var (i := 8) rfl)) (ev_k (n := 0) rfl))) (fun s ps hb => ?_) fun s ps hb => ?_
    · obtain ⟨left, here, root⟩ := s
      obtain ⟨⟨k, q0, q1⟩, q2, q3, q4, q5⟩ := ps
      dsimp only at q0 q1 q2 q3 q4 q5
      have hb : 0 < left.length := of_decide_eq_true hb
      cases left with
      | nil => exact absurd hb (Nat.lt_irrefl 0)
      | cons r0 rs =>
        obtain ⟨qf, qr⟩ := q2
        obtain ⟨k', rfl⟩ : ∃ k', k = k' + 1 := ⟨k - 1, by simp at q0; omega⟩
        rw [List.length_cons] at q0 q3 q4 qf
        have hmm : (r0 :: rs).length = rs.length + 1 := rfl
        generalize hbl : (fun s => begunF l s (rs.length + 1) * wayN l t (rs.length + 1 - s)) = bl
        have hbl' : ∀ s, bl s = begunF l s (rs.length + 1) * wayN l t (rs.length + 1 - s) := fun s => by rw [← hbl]
        have hsum : here < ((groupsF l t (rs.length + 1)).map bl).sum := by
          rw [way_succ, hbl] at q4
          exact q4
        have eN : ∀ {es : List Cell}, es[8]? = some (.val rRs (r0 :: rs)) → EvE T rN (tCB (rLn K) (tCons (tVar 8) tNil)) es (rs.length + 1) := fun h => ev_len (xs := r0 :: rs) (ev_var h)
        have eG : ∀ {es : List Cell}, es[4]? = some (.val rI (l : Int)) → es[1]? = some (.val rN t) → es[8]? = some (.val rRs (r0 :: rs)) → EvE T (rL rN) (tCall (spGroups T) [] E0 (tCons (tVar 4) (tCons (tVar 1) (tCons (tCB (rLn K) (tCons (tVar 8) tNil)) tNil)))) es (groupsF l t (rs.length + 1)) := fun h h2 h3 => ev_frz frz_L (eo_call (l, t, rs.length + 1) (ea_cons (eL h) (ea_cons (ev_var h2) (ea_cons (eN h3) ea_nil))) (And.intro (show l ≤ 64 by omega) (show rs.length + 1 ≤ 64 by omega)))
        refine go_cut (fun es' => ∃ z h', (chooseF bl (groupsF l t (rs.length + 1)) here = (z, h') ∧ z ∈ groupsF l t (rs.length + 1) ∧ h' < bl z) ∧ es' = [.val (rL rN) σ, .val rN t, .val rN (num / wayN l t m), .own (oL rN) root, .val rI (l : Int), .val rRs rings, .val (rL rN) (wayL l t m), .val rN h', .val rRs (r0 :: rs), .val rN z, .val rN (bl z), .no, .no, .no, .no, .no, .no, .no, .no]) ?_ ?_
        · refine go_forS (xs := groupsF l t (rs.length + 1)) [9] (fun h' : Nat => [.val (rL rN) σ, .val rN t, .val rN (num / wayN l t m), .own (oL rN) root, .val rI (l : Int), .val rRs rings, .val (rL rN) (wayL l t m), .val rN h', .val rRs (r0 :: rs), .no, .no, .no, .no, .no, .no, .no, .no, .no, .no])
            (fun j h' => chooseF bl (groupsF l t (rs.length + 1)) here = chooseF bl ((groupsF l t (rs.length + 1)).drop j) h' ∧ h' < (((groupsF l t (rs.length + 1)).drop j).map bl).sum) here (evi_list (eG rfl rfl rfl)) Wk.refl ⟨rfl, hsum⟩ (fun G2 sh2 j z h' hzj pj => ?_) fun h' pj => ?_
          · obtain ⟨j1, j2⟩ := pj
            refine ⟨_, tg_name, ?_⟩
            have hzg := List.mem_of_getElem? hzj
            obtain ⟨z1, z2, _⟩ := mem_groups.mp hzg
            refine go_seq (go_asg (ev_is (ev_mulN (ev_call (l, z, rs.length + 1) (ea_cons (eL rfl) (ea_cons (ev_var (i := 9) rfl) (ea_cons (eN rfl) ea_nil))) (And.intro (show l ≤ 64 by omega) (And.intro z1 (And.intro z2 (show rs.length + 1 ≤ 64 by omega))))) (ev_ixL (ev_var (i := 6) rfl) (ev_subN (eN rfl) (ev_var (i := 9) rfl) z2) (wayL_get l t (show rs.length + 1 - z ≤ m by omega))) (mulok_nat (begun_lt (show l ≤ 64 by omega) (show z ≤ 64 by omega) (show rs.length + 1 ≤ 64 by omega)) (way_lt (show 1 ≤ l by omega) (show l ≤ 64 by omega) (show rs.length + 1 - z ≤ 64 by omega)) (by omega) (by omega) (by omega))) (hbl' z).symm) (to_go ?_))
            refine go_seq (go_if (eb_test (ev_ltN (ev_var (i := 7) rfl) (ev_var (i := 10) rfl))) (fun hb2 => ?_) fun hb2 => ?_)
            · have hb2 : h' < bl z := of_decide_eq_true hb2
              refine go_brk (to_sh sh2 (To.some ⟨z, h', ⟨?_, hzg, hb2⟩, rfl⟩))
              rw [j1, choose_step bl hzj, if_pos hb2]
            · have hb2 : ¬ h' < bl z := of_decide_eq_false hb2
              refine go_next (to_go (go_augN (i := 7) (f := fun a b => a - b) (c := h' - bl z) rfl (ev_var (i := 10) rfl) (show (h' : Int) - (bl z : Int) = ((h' - bl z : Nat) : Int) by omega) (to_S (h' - bl z) ⟨?_, ?_⟩ (.keep (.keep (.keep (.keep (.keep (.keep (.keep (.keep (.keep (.drop (.drop (.keep (.keep (.keep (.keep (.keep (.keep (.keep (.keep .nil))))))))))))))))))))))
              · rw [j1, choose_step bl hzj, if_neg hb2]
              · rw [sum_drop bl hzj] at j2
                omega
          · rw [List.drop_length] at pj
            exact absurd pj.2 (Nat.not_lt_zero _)
        · rintro es' ⟨z, h', ⟨c1, c2, c3⟩, rfl⟩
          obtain ⟨z1, z2, _⟩ := mem_groups.mp c2
          rw [hbl'] at c3
          have hzl : rs.length + 1 - z ≤ m := by omega
          have hAl := way_lt (l := l) (t := t) (m := rs.length + 1 - z) (by omega) (by omega) (by omega)
          have hA : 0 < wayN l t (rs.length + 1 - z) := by
            rcases Nat.eq_zero_or_pos (wayN l t (rs.length + 1 - z)) with e | e
            · rw [e, Nat.mul_zero] at c3
              omega
            · exact e
          have hmine : h' / wayN l t (rs.length + 1 - z) < begunF l z (rs.length + 1) := Nat.div_lt_of_lt_mul (by rw [Nat.mul_comm]; exact c3)
          have hwp := weaves_pos (l := l) (s := z) (by omega)
          have hwl := weaves_lt (l := l) (s := z) (by omega) (by omega)
          have hpp : 0 < l ^ (z - 1) := Nat.pow_pos (by omega)
          have hpl := pow_lt (l := l) (k := z - 1) (by omega) (by omega)
          have eW : ∀ {es : List Cell}, es[4]? = some (.val rI (l : Int)) → es[9]? = some (.val rN z) → EvE T rN (tCall (spWeaves T) [] E0 (tCons (tVar 4) (tCons (tVar 9) tNil))) es (weavesF l z) := fun h h2 => ev_call (l, z) (ea_cons (eL h) (ea_cons (ev_var h2) ea_nil)) (And.intro (show l ≤ 64 by omega) (And.intro z1 (show z ≤ 64 by omega)))
          have eZ : ∀ {es : List Cell}, es[9]? = some (.val rN z) → EvE T rN (tOp (rI0 fun i j => .int (i - j)) (tVar 9) (tC (.int 1))) es (z - 1) := fun h => ev_subN (ev_var h) (ev_k (n := 1) rfl) z1
          have eP : ∀ {es : List Cell}, es[4]? = some (.val rI (l : Int)) → es[9]? = some (.val rN z) → EvE T rN (tCall (spPower T) [] E0 (tCons (tVar 4) (tCons (tOp (rI0 fun i j => .int (i - j)) (tVar 9) (tC (.int 1))) tNil))) es (l ^ (z - 1)) := fun h h2 => ev_call (l, z - 1) (ea_cons (eL h) (ea_cons (eZ h2) ea_nil)) (And.intro (show l ≤ 64 by omega) (show z - 1 ≤ 64 by omega))
          refine go_seq (go_asg (ev_ixL (ev_var (i := 6) rfl) (ev_subN (eN rfl) (ev_var (i := 9) rfl) z2) (wayL_get l t hzl)) (to_go ?_))
          refine go_seq (go_parEE (by decide) (ev_modN (ev_var (i := 7) rfl) (ev_var (i := 11) rfl) hA) (ev_divN (ev_var (i := 7) rfl) (ev_var (i := 11) rfl) hA (log_lt hAl (by omega))) (to_go ?_))
          refine go_seq (go_parEE (by decide) (ev_divN (ev_var (i := 12) rfl) (eW rfl rfl) hwp (log_lt hwl (by omega))) (ev_modN (ev_var (i := 12) rfl) (eW rfl rfl) hwp) (to_go ?_))
          dsimp only
          generalize hmi : h' / wayN l t (rs.length + 1 - z) / weavesF l z = mi
          generalize hwe : h' / wayN l t (rs.length + 1 - z) % weavesF l z = we
          refine go_seq (go_asgG (R := rP rRs rRs) (ev_call (rs, z - 1, mi) (ea_cons (ev_is (ev_frz frz_L (eo_slice (ev_var (i := 8) rfl) (po_so (ev_k (n := 1) rfl)) po_no)) rfl) (ea_cons (eZ rfl) (ea_cons (ev_var (i := 12) rfl) ea_nil))) (And.intro (show rs.length ≤ 64 by omega) (show z - 1 ≤ 64 by omega))) (tg_tup (R := rRs) (S := rRs) tg_name tg_name) (to_go ?_))
          refine go_seq (go_parEE (by decide) (ev_divN (ev_var (i := 13) rfl) (eP rfl rfl) hpp (log_lt hpl (by omega))) (ev_modN (ev_var (i := 13) rfl) (eP rfl rfl) hpp) (to_go ?_))
          refine go_seq (go_asgO (eo_lst (xs := [r0]) (ea_cons (ev_ixL (ev_var (i := 8) rfl) (ev_k (n := 0) rfl) rfl) ea_nil) (by simp)) (to_go ?_))
          dsimp only
          have hpsz : (pickF rs (z - 1) mi).1.length = z - 1 := pick_size rs (z - 1) mi (by
            rw [← hmi]
            refine Nat.div_lt_of_lt_mul ?_
            rw [Nat.mul_comm]
            exact hmine)
          have hppm := pick_perm rs (z - 1) mi
          generalize hpk : pickF rs (z - 1) mi = pk at *
          have hop := order_perm pk.1.length pk.1 (we / l ^ (z - 1)) rfl
          generalize hor : orderF pk.1.length pk.1 (we / l ^ (z - 1)) = ord at hop
          have hol : ord.length = z - 1 := by rw [hop.length_eq, hpsz]
          have hmem : ∀ r ∈ ord, r ∈ rs := fun r hr => hppm.mem_iff.mp (List.mem_append_left _ (hop.mem_iff.mp hr))
          refine go_seq (go_forS (xs := ord) [18] (fun s : List (List Nat) × Nat => [.val (rL rN) σ, .val rN t, .val rN (num / wayN l t m), .own (oL rN) root, .val rI (l : Int), .val rRs rings, .val (rL rN) (wayL l t m), .val rN (h' % wayN l t (rs.length + 1 - z)), .val rRs (r0 :: rs), .val rN z, .val rN (bl z), .val rN (wayN l t (rs.length + 1 - z)), .val rN mi, .val rN (we / l ^ (z - 1)), .val rRs pk.1, .val rRs pk.2, .val rN s.2, .own (oL (rL rN)) s.1, .no])
            (fun i s => r0 :: turnF l ord (we % l ^ (z - 1)) = s.1 ++ turnF l (ord.drop i) s.2 ∧ s.1.length = i + 1) ([r0], we % l ^ (z - 1)) (evi_list (ev_frz frz_L (eo_is (eo_call (pk.1, we / l ^ (z - 1)) (ea_cons (ev_var (i := 14) rfl) (ea_cons (ev_var (i := 13) rfl) ea_nil)) (show pk.1.length ≤ 64 by omega)) hor))) Wk.refl ⟨rfl, rfl⟩ (fun G2 sh2 j r s hr pj => ?_) fun s pj => ?_)
          · obtain ⟨sm, tn⟩ := s
            obtain ⟨j1, j2⟩ := pj
            dsimp only at j1 j2
            have hjl := (List.getElem?_eq_some_iff.mp hr).1
            have hrl2 := (qr r (List.mem_cons_of_mem _ (hmem r (List.mem_of_getElem? hr)))).1
            refine ⟨_, tg_name, ?_⟩
            refine go_seq (go_app (i := 17) (x := r.drop (tn % l) ++ r.take (tn % l)) rfl (show sm.length < 100000 by omega) (ev_frz frz_L (eo_cat (ev_frz frz_L (eo_slice (ev_var (i := 18) rfl) (po_so (ev_modN (ev_var (i := 16) rfl) (eL rfl) (by omega))) po_no)) (ev_frz frz_L (eo_slice (ev_var (i := 18) rfl) po_no (po_so (ev_modN (ev_var (i := 16) rfl) (eL rfl) (by omega))))) (by
              show (r.drop (tn % l)).length + (r.take (tn % l)).length ≤ 100000
              rw [List.length_drop, List.length_take]
              omega))) (to_go ?_))
            refine go_asg (ev_divN (ev_var (i := 16) rfl) (eL rfl) (by omega) (log_lt (show l < 2 ^ 10 by omega) (by omega))) (to_S (sm ++ [r.drop (tn % l) ++ r.take (tn % l)], tn / l) ⟨?_, by simp [j2]⟩ (.keep (.keep (.keep (.keep (.keep (.keep (.keep (.keep (.keep (.keep (.keep (.keep (.keep (.keep (.keep (.keep (.keep (.keep (.drop .nil))))))))))))))))))))
            have hdj : ord.drop j = r :: ord.drop (j + 1) := by
              obtain ⟨a, e⟩ := List.getElem?_eq_some_iff.mp hr
              rw [List.drop_eq_getElem_cons a, e]
            rw [j1, hdj]
            simp only [turnF, List.append_assoc]
            rfl
          · obtain ⟨sm, tn⟩ := s
            obtain ⟨j1, j2⟩ := pj
            dsimp only at j1 j2
            rw [List.drop_length] at j1
            simp only [turnF, List.append_nil] at j1
            subst j1
            refine to_go (go_frz 17 rRs rfl frz_L ?_)
            have hOk : OkRs (r0 :: turnF l ord (we % l ^ (z - 1))) l root.length := by
              have hin : ∀ x ∈ r0 :: turnF l ord (we % l ^ (z - 1)), x.length = l ∧ ∀ y ∈ x, y < root.length := fun x hx => by
                rcases List.mem_cons.mp hx with rfl | hx
                · have := qr x (List.mem_cons_self ..)
                  exact ⟨this.1, fun y hy => by rw [q5]; exact this.2 y hy⟩
                · obtain ⟨r, h1, k, _, rfl⟩ := turn_mem hx
                  have := qr r (List.mem_cons_of_mem _ (hmem r h1))
                  exact ⟨by rw [rot_len]; exact this.1, fun y hy => by rw [q5]; exact this.2 y (rot_mem.mp hy)⟩
              have hln : (r0 :: turnF l ord (we % l ^ (z - 1))).length = z := by
                rw [List.length_cons, turn_length, hol]
                omega
              exact ⟨fun r hr => (hin r hr).1, by omega, by omega, by omega, by omega, fun r hr => (hin r hr).2⟩
            refine go_seq (go_callM (i := 3) (xs := root) (r0 :: turnF l ord (we % l ^ (z - 1)), t) rfl (ea_cons (ev_var (i := 17) rfl) (ea_cons (ev_var (i := 1) rfl) ea_nil)) ⟨⟨l, hOk⟩, ht⟩ (to_go ?_))
            have hTurn : turnAt l t r0 rs here = ⟨z, h' % wayN l t (rs.length + 1 - z), mi, we, r0 :: turnF l ord (we % l ^ (z - 1)), pk.2⟩ := by
              unfold turnAt blockF
              rw [hbl, c1]
              dsimp only
              rw [hmi, hwe, hpk, hor]
            have hp2 : pk.2.length + (z - 1) = rs.length := by
              have := hppm.length_eq
              rw [List.length_append, hpsz] at this
              omega
            refine go_asg (ev_var (R := rRs) (x := pk.2) (i := 15) rfl) (to_S (pk.2, h' % wayN l t (rs.length + 1 - z), wovenF root (r0 :: turnF l ord (we % l ^ (z - 1))) t) ⟨⟨⟨k', by dsimp only; omega, ?_⟩, ⟨by dsimp only; omega, fun r hr => qr r (List.mem_cons_of_mem _ (hppm.mem_iff.mp (List.mem_append_right _ hr)))⟩, by dsimp only; omega, ?_, ?_⟩, by dsimp only; rw [List.length_cons]; omega⟩ (.keep (.keep (.keep (.keep (.keep (.keep (.keep (.keep (.keep (.drop (.drop (.drop (.drop (.drop (.drop (.drop (.drop (.drop (.keep .nil))))))))))))))))))))
            · rw [q1]
              simp only [innerF, hTurn]
            · dsimp only
              have e : pk.2.length = rs.length + 1 - z := by omega
              rw [e]
              exact Nat.mod_lt _ hA
            · dsimp only
              unfold wovenF
              rw [setAll_length]
              exact q5
    · obtain ⟨left, here, root⟩ := s
      obtain ⟨⟨k, q0, q1⟩, q2, q3, q4, q5⟩ := ps
      dsimp only at q0 q1 q2 q3 q4 q5
      have hb : ¬ 0 < left.length := of_decide_eq_false hb
      have e : left = [] := List.length_eq_zero_iff.mp (by omega)
      subst e
      rw [inner_nil] at q1
      refine to_S (num / wayN l t m, root) ⟨?_, q5⟩ (.keep (.keep (.keep (.keep (.drop (.drop (.drop (.drop (.drop (.keep (.keep (.keep (.keep (.keep (.keep (.keep (.keep (.keep (.keep .nil)))))))))))))))))))
      rw [ps1]
      simp only [outerF]
      rw [show ((l : Int)).toNat = l by omega, hm, hh0, q1]
  · obtain ⟨num, rt⟩ := s
    obtain ⟨ps1, ps2⟩ := ps
    rw [List.drop_length] at ps1
    refine to_go (go_retV (i := 3) (x := rt) rfl fun v G H F st fr r => hq v G H F st fr ?_)
    rw [ps1]
    exact r
end
end AO
set_option Elab.async false
set_option linter.all false
set_option maxRecDepth 100000
set_option maxHeartbeats 4000000
/-! AOL1: the law's drawing. -/
namespace AO
open PySem L2
def primes : List Int := [1000003, 1000033, 1000037, 1000039, 1000081, 1000099, 1000117, 1000121, 1000133, 1000151, 1000159, 1000171, 1000183, 1000187, 1000193, 1000199]
def drawN (c : Int) (k m : Nat) : Nat := ((c * 48271 + (k : Int) * 69621) % primes.getD (k % 16) 1 % (m : Int)).toNat
def valN (c : Int) (k m : Nat) : Nat := if 1000000000000000000 ≤ c then ((c - 1000000000000000000) % 10000000000000000000000000000000000000000).toNat else drawN ((c + 977 * (k : Int)) * (c + 31 * (k : Int) + 5)) (k % 9 + 1) m
theorem draw_lt {c : Int} {k m : Nat} (h : 0 < m) : drawN c k m < m := by
  unfold drawN
  have h0 : (0 : Int) < (m : Int) := by omega
  have h1 := Int.emod_nonneg ((c * 48271 + (k : Int) * 69621) % primes.getD (k % 16) 1) (Int.ne_of_gt h0)
  have h2 := Int.emod_lt_of_pos ((c * 48271 + (k : Int) * 69621) % primes.getD (k % 16) 1) h0
  omega
section
variable {P : Program} {w : World} {K : PySem.W.Frag} {mg : Str → Option Value} {base : Heap} {T : List (Addr × Str)}
abbrev spCell (T : List (Addr × Str)) : Sp := spE T (fun i : List Int × Nat => [.val (rL rI) i.1, .val rN i.2]) (fun _ => True) rI fun i => i.1.getD i.2 0
abbrev spDraw (T : List (Addr × Str)) : Sp := spE T (fun i : Int × Nat × Nat => [.val rI i.1, .val rN i.2.1, .val rN i.2.2]) (fun i => bitsI i.1 ≤ 4000000 ∧ i.2.1 < 1000 ∧ 0 < i.2.2) rN fun i => drawN i.1 i.2.1 i.2.2
abbrev spValue (T : List (Addr × Str)) : Sp := spE T (fun i : Int × Nat × Nat => [.val rI i.1, .val rN i.2.1, .val rN i.2.2]) (fun i => bitsI i.1 ≤ 1048576 ∧ i.2.1 < 1000 ∧ 0 < i.2.2) rN fun i => valN i.1 i.2.1 i.2.2
theorem sc_law_cell_at : FnScope ["_law_script", "_law_k"] ["_law_script", "_law_k"] (defScope s_law_cell_at) := ⟨rfl, rfl, rfl, by decide +kernel, rfl, by decide +kernel, by decide +kernel⟩
theorem ok_cell_at {f : Addr} {fd : FuncData} (Df : Def K mg "_law_cell_at" s_law_cell_at ["_law_script", "_law_k"] f fd) (B : Bn mg) :
    Pr P w K mg base CX0 (0 + 1) "_law_cell_at" ["_law_script", "_law_k"] (spCell T) := by
  refine fn_E Df sc_law_cell_at (fun _ => rfl) fun cdv A outer s H E hr => ⟨_, (pss_cons (ps_if (pt_cmpR op_lt (pv 1) (pe_callB call_len_seq (by rfl) B.len PySem.boot_len (pa_cons (pv 0) pa_nil)) (nomark _)) (pss_one (ps_ret (pe_ix ix_list (pv 0) (pv 1) (fun _ _ => rfl)))) (pss_nil))
    (pss_one (ps_ret pe_int))), fun i G0 H0 D hp hq hn => ?_⟩
  obtain ⟨xs, k⟩ := i
  refine go_seq (go_if (eb_test (ev_ltN (ev_var (i := 1) rfl) (ev_len (ev_var (i := 0) rfl)))) (fun hb => ?_) fun hb => ?_)
  · have hb := of_decide_eq_true hb
    refine go_ret (ev_ixL (ev_var (i := 0) rfl) (ev_var (i := 1) rfl) (List.getElem?_eq_getElem hb)) fun v G H st r => hq v G H st ?_
    dsimp only
    rw [List.getD_eq_getElem?_getD, List.getElem?_eq_getElem hb]
    exact r
  · have hb := of_decide_eq_false hb
    refine go_next (to_go (go_ret ev_int fun v G H st r => hq v G H st ?_))
    dsimp only
    rw [List.getD_eq_getElem?_getD, List.getElem?_eq_none (by dsimp only at hb ⊢; omega)]
    exact r
theorem sc_law_draw : FnScope ["_law_cell", "_law_k", "_law_many", "_law_primes"] ["_law_cell", "_law_k", "_law_many"] (defScope s_law_draw) := ⟨rfl, rfl, rfl, by decide +kernel, rfl, by decide +kernel, by decide +kernel⟩
theorem ok_draw {f : Addr} {fd : FuncData} (Df : Def K mg "_law_draw" s_law_draw ["_law_cell", "_law_k", "_law_many"] f fd) (B : Bn mg) :
    Pr P w K mg base CX0 (0 + 1) "_law_draw" ["_law_cell", "_law_k", "_law_many"] (spDraw T) := by
  refine fn_E Df sc_law_draw (fun _ => rfl) fun cdv A outer s H E hr => ⟨_, (pss_cons (ps_set (i := 3) sc_law_draw.nd rfl (.inl rfl) (pe_tup (pa_cons pe_int (pa_cons pe_int (pa_cons pe_int (pa_cons pe_int (pa_cons pe_int (pa_cons pe_int (pa_cons pe_int (pa_cons pe_int (pa_cons pe_int (pa_cons pe_int (pa_cons pe_int (pa_cons pe_int (pa_cons pe_int (pa_cons pe_int (pa_cons pe_int (pa_cons pe_int pa_nil))))))))))))))))))
    (pss_one (ps_ret (pe_op op_mod (pe_op op_mod (pe_op op_add (pe_op op_mulB (pv 0) pe_int) (pe_op op_mulB (pv 1) pe_int)) (pe_ix ix_tup (pv 3) (pe_op op_mod (pv 1) pe_int) (fun _ _ => rfl))) (pv 2))))), fun i G0 H0 D hp hq hn => ?_⟩
  obtain ⟨c, k, m⟩ := i
  obtain ⟨h1, h2, h3⟩ := hp
  dsimp only at h1 h2 h3 hq ⊢
  refine go_seq (go_asg (ev_tupT (xs := primes) (ea_cons ev_int (ea_cons ev_int (ea_cons ev_int (ea_cons ev_int (ea_cons ev_int (ea_cons ev_int (ea_cons ev_int (ea_cons ev_int (ea_cons ev_int (ea_cons ev_int (ea_cons ev_int (ea_cons ev_int (ea_cons ev_int (ea_cons ev_int (ea_cons ev_int (ea_cons ev_int ea_nil)))))))))))))))) (by decide)) (to_go ?_))
  have hk : k % 16 < primes.length := Nat.mod_lt _ (by decide)
  have hp : primes[k % 16]? = some (primes.getD (k % 16) 1) := by
    rw [List.getD_eq_getElem?_getD, List.getElem?_eq_getElem hk]
    rfl
  have hpos : 0 < primes.getD (k % 16) 1 := by
    have : ∀ x ∈ primes, 0 < x := by decide
    exact this _ (List.mem_of_getElem? hp)
  have h0 : (0 : Int) < (m : Int) := by omega
  refine go_ret (ev_IN (ev_modI (ev_modI (ev_addI (ev_mulI (ev_var (i := 0) rfl) ev_int (mulok_bits h1 (b := 64) (by decide) (by omega))) (ev_mulI (ev_NI (ev_var (i := 1) rfl)) ev_int (mulok_bits (bits_nat' (n := 10) (by omega)) (b := 64) (by decide) (by omega)))) (ev_ixT (ev_var (i := 3) rfl) (ev_modN (ev_var (i := 1) rfl) (ev_k (n := 16) rfl) (by omega)) hp) hpos) (ev_NI (ev_var (i := 2) rfl)) h0) ?_) hq
  exact (Int.toNat_of_nonneg (Int.emod_nonneg _ (Int.ne_of_gt h0))).symm
theorem sc_law_value : FnScope ["_law_cell", "_law_k", "_law_limit"] ["_law_cell", "_law_k", "_law_limit"] (defScope s_law_value) := ⟨rfl, rfl, rfl, by decide +kernel, rfl, by decide +kernel, by decide +kernel⟩
theorem ok_value {f : Addr} {fd : FuncData} (Df : Def K mg "_law_value" s_law_value ["_law_cell", "_law_k", "_law_limit"] f fd) (B : Bn mg) (h_law_draw : Pr P w K mg base CX0 1 "_law_draw" ["_law_cell", "_law_k", "_law_many"] (spDraw T)) :
    Pr P w K mg base CX0 (1 + 1) "_law_value" ["_law_cell", "_law_k", "_law_limit"] (spValue T) := by
  refine fn_E Df sc_law_value (fun _ => rfl) fun cdv A outer s H E hr => ⟨_, (pss_cons (ps_if (pt_cmpR op_ge (pv 0) (pe_op op_pow pe_int pe_int) (nomark _)) (pss_one (ps_ret (pe_op op_mod (pe_op op_sub (pv 0) (pe_op op_pow pe_int pe_int)) (pe_op op_pow pe_int pe_int)))) (pss_nil))
    (pss_one (ps_ret (pe_pr h_law_draw (hr.mono (by decide)) (pa_cons (pe_op op_mulB (pe_op op_add (pv 0) (pe_op op_mulB pe_int (pv 1))) (pe_op op_add (pe_op op_add (pv 0) (pe_op op_mulB pe_int (pv 1))) pe_int)) (pa_cons (pe_op op_add (pe_op op_mod (pv 1) pe_int) pe_int) (pa_cons (pv 2) pa_nil))))))), fun i G0 H0 D hp hq hn => ?_⟩
  obtain ⟨c, k, m⟩ := i
  obtain ⟨h1, h2, h3⟩ := hp
  dsimp only at h1 h2 h3 hq ⊢
  have e18 : ∀ {es : List Cell}, EvE T rI (tOp (L2.rI CPow fun i j => .int (i ^ j.toNat)) (tC (.int 10)) (tC (.int 18))) es 1000000000000000000 := ev_powK ev_int ev_int (by decide) (by decide) (by decide) (by decide)
  have e40 : ∀ {es : List Cell}, EvE T rI (tOp (L2.rI CPow fun i j => .int (i ^ j.toNat)) (tC (.int 10)) (tC (.int 40))) es 10000000000000000000000000000000000000000 := ev_powK ev_int ev_int (by decide) (by decide) (by decide) (by decide)
  refine go_seq (go_if (eb_test (ev_geI (ev_var (i := 0) rfl) e18)) (fun hb => ?_) fun hb => ?_)
  · have hb := of_decide_eq_true hb
    refine go_ret (ev_IN (ev_modI (ev_subI (ev_var (i := 0) rfl) e18) e40 (by decide)) (Int.toNat_of_nonneg (Int.emod_nonneg _ (by decide))).symm) fun v G H st r => hq v G H st ?_
    unfold valN
    rw [if_pos hb]
    exact r
  · have hb := of_decide_eq_false hb
    have e1 : bitsI (c + 977 * (k : Int)) ≤ 1048577 := bits_add h1 (bits_mono (bits_mulk (c := 977) (n := 20) (by omega)) (by omega))
    have e2 : bitsI (c + 31 * (k : Int) + 5) ≤ 1048578 := bits_add (bits_add h1 (bits_mono (bits_mulk (c := 31) (n := 20) (by omega)) (by omega))) (bits_mono (bits_of (n := 3) (by decide)) (by omega))
    refine go_next (to_go (go_ret (ev_call ((c + 977 * (k : Int)) * (c + 31 * (k : Int) + 5), k % 9 + 1, m) (ea_cons (ev_mulI (ev_addI (ev_var (i := 0) rfl) (ev_mulI ev_int (ev_NI (ev_var (i := 1) rfl)) (mulok_bits (a := 64) (by decide) (bits_nat' (n := 10) (by omega)) (by omega)))) (ev_addI (ev_addI (ev_var (i := 0) rfl) (ev_mulI ev_int (ev_NI (ev_var (i := 1) rfl)) (mulok_bits (a := 64) (by decide) (bits_nat' (n := 10) (by omega)) (by omega)))) ev_int) (mulok_bits e1 e2 (by omega)))
      (ea_cons (ev_addN (ev_modN (ev_var (i := 1) rfl) (ev_k (n := 9) rfl) (by omega)) (ev_k (n := 1) rfl)) (ea_cons (ev_var (i := 2) rfl) ea_nil))) ⟨bits_mono (bits_mul e1 e2) (by omega), show k % 9 + 1 < 1000 by omega, h3⟩) fun v G H st r => hq v G H st ?_))
    unfold valN
    rw [if_neg hb]
    exact r
end
end AO
set_option Elab.async false
set_option linter.all false
set_option maxRecDepth 100000
set_option maxHeartbeats 4000000
/-! AOL2: the law's orders. -/
namespace AO
open PySem L2
section
variable {P : Program} {w : World} {K : PySem.W.Frag} {mg : Str → Option Value} {base : Heap} {T : List (Addr × Str)}
abbrev CellsOk (xs : List Int) : Prop := (∀ z ∈ xs, bitsI z ≤ 1048576) ∧ xs.length ≤ 63
abbrev spOrder (T : List (Addr × Str)) : Sp := spQ T (fun i : List Int × Nat => [.val (rL rI) i.1, .val rN i.2]) (fun i => CellsOk i.1 ∧ i.2 < 100) (oL rN) fun i σ => IsP σ ∧ σ.length = min 60 i.1.length
theorem cell_bits {c : Int} {b : Nat} (hb : b < 100) : bitsI (c % 1000000000000000000 + (b : Int)) ≤ 4000000 := by
  have h1 := Int.emod_nonneg c (b := 1000000000000000000) (by decide)
  have h2 := Int.emod_lt_of_pos c (b := 1000000000000000000) (by decide)
  exact bits_mono (bits_of (n := 64) (by omega)) (by omega)
theorem cell_bits0 {c : Int} : bitsI (c % 1000000000000000000) ≤ 4000000 := by
  have := cell_bits (c := c) (b := 0) (by omega)
  simpa using this
theorem sc_law_order : FnScope ["_law_script", "_law_by", "_law_size", "_law_kind", "_law_left", "_law_line", "_law_k", "_law_found", "_law_at", "_law_drawn", "_law_length", "_law_ring", "_law_one", "_law_other"] ["_law_script", "_law_by"] (defScope s_law_order) := ⟨rfl, rfl, rfl, by decide +kernel, rfl, by decide +kernel, by decide +kernel⟩
theorem ok_order {f : Addr} {fd : FuncData} (Df : Def K mg "_law_order" s_law_order ["_law_script", "_law_by"] f fd) (B : Bn mg) (h_law_draw : Pr P w K mg base CX0 1 "_law_draw" ["_law_cell", "_law_k", "_law_many"] (spDraw T))
    (h_law_value : Pr P w K mg base CX0 2 "_law_value" ["_law_cell", "_law_k", "_law_limit"] (spValue T)) (h_law_cell_at : Pr P w K mg base CX0 1 "_law_cell_at" ["_law_script", "_law_k"] (spCell T)) :
    Pr P w K mg base CX0 (2 + 1) "_law_order" ["_law_script", "_law_by"] (spOrder T) := by
  refine fn_Q Df sc_law_order (fun _ => rfl) fun cdv A outer s H E hr => ⟨_, (pss_cons (ps_par (i := 2) (j := 3) rfl sc_law_order.nd rfl rfl (by decide) rfl rfl (pa_cons (pe_callB (call_min2 rfl) (by rfl) B.min (by decide +kernel) (pa_cons pe_int (pa_cons (pe_callB call_len_seq (by rfl) B.len PySem.boot_len (pa_cons (pv 0) pa_nil)) pa_nil))) (pa_cons (pe_pr h_law_draw (hr.mono (by decide)) (pa_cons (pe_op op_add (pe_op op_mod (pe_pr h_law_cell_at (hr.mono (by decide)) (pa_cons (pv 0) (pa_cons pe_int pa_nil))) (pe_op op_pow pe_int pe_int)) (pv 1)) (pa_cons pe_int (pa_cons pe_int pa_nil)))) pa_nil)) (by rfl))
    (pss_cons (ps_par (i := 4) (j := 5) rfl sc_law_order.nd rfl rfl (by decide) rfl rfl (pa_cons (pe_listRg rfl (by rfl) B.list (prg_1 (by rfl) B.range (pv 2))) (pa_cons (pe_lst pa_nil) pa_nil)) (by rfl))
    (pss_cons (ps_for PassesOwn.never rfl (pi_range1 (by rfl) B.range (pa_cons (pv 2) pa_nil)) (pg_name (i := 6) sc_law_order.nd rfl (.inl rfl)) (pss_one (ps_expr (pe_bm PySem.F.plainAttrs_list PySem.F.slot_list_append PySem.F.type_list_append mt_append (pv 5) (pa_cons (pe_bm PySem.F.plainAttrs_list PySem.F.slot_list_pop PySem.F.type_list_pop mt_popAt (pv 4) (pa_cons (pe_op op_mod (pe_pr h_law_value (hr.mono (by decide)) (pa_cons (pe_ix ix_list (pv 0) (pv 6) (fun _ _ => rfl)) (pa_cons (pe_op op_add (pv 6) (pv 1)) (pa_cons pe_int pa_nil)))) (pe_callB call_len_seq (by rfl) B.len PySem.boot_len (pa_cons (pv 4) pa_nil))) pa_nil)) pa_nil)))))
    (pss_cons (ps_if (pt_cmpR op_eq (pv 3) pe_int (nomark _)) (pss_one (ps_ret (pv 5))) (pss_nil))
    (pss_cons (ps_par (i := 7) (j := 8) rfl sc_law_order.nd rfl rfl (by decide) rfl rfl (pa_cons (pe_listRg rfl (by rfl) B.list (prg_1 (by rfl) B.range (pv 2))) (pa_cons pe_int pa_nil)) (by rfl))
    (pss_cons (ps_while PassesOwn.never (pt_cmpR op_lt (pv 8) (pv 2) (nomark _)) (pss_cons (ps_set (i := 9) sc_law_order.nd rfl (.inl rfl) (pe_pr h_law_draw (hr.mono (by decide)) (pa_cons (pe_op op_mod (pe_pr h_law_cell_at (hr.mono (by decide)) (pa_cons (pv 0) (pa_cons (pv 8) pa_nil))) (pe_op op_pow pe_int pe_int)) (pa_cons (pe_op op_add (pe_op op_mod (pv 8) pe_int) (pv 1)) (pa_cons pe_int pa_nil)))))
    (pss_cons (ps_set (i := 10) sc_law_order.nd rfl (.inl rfl) (pe_ix ix_tup (pe_tup (pa_cons pe_int (pa_cons pe_int (pa_cons pe_int (pa_cons (pe_op op_add pe_int (pv 9)) (pa_cons (pe_ix ix_tup (pe_tup (pa_cons pe_int (pa_cons pe_int (pa_cons pe_int pa_nil)))) (pe_op op_mod (pv 9) pe_int) (fun _ _ => rfl)) pa_nil)))))) (pe_op op_sub (pv 3) pe_int) (fun _ _ => rfl)))
    (pss_cons (ps_set (i := 11) sc_law_order.nd rfl (.inl rfl) (pe_slice sl_list (pv 5) (po_some (pv 8)) (po_some (pe_op op_add (pv 8) (pv 10)))))
    (pss_cons (ps_for PassesOwn.never rfl (pi_zip (by rfl) B.zip (pa_cons (pv 11) (pa_cons (pe_op op_cat (pe_slice sl_list (pv 11) (po_some pe_int) po_none) (pe_slice sl_list (pv 11) po_none (po_some pe_int))) pa_nil))) (pg_tup rfl (pgs_cons (pg_name (i := 12) sc_law_order.nd rfl (.inl rfl)) (pgs_cons (pg_name (i := 13) sc_law_order.nd rfl (.inl rfl)) pgs_nil))) (pss_one (ps_asg (pv 13) (pg_sub (pv 7) (pv 12) set_list))))
    (pss_one (ps_set (i := 8) sc_law_order.nd rfl (.inl rfl) (pe_op op_add (pv 8) (pv 10)))))))))
    (pss_one (ps_ret (pv 7))))))))), fun i G0 H0 D hp hq hn => ?_⟩
  obtain ⟨xs, b⟩ := i
  obtain ⟨⟨hbits, hxl⟩, hb⟩ := hp
  dsimp only at hbits hxl hb hq ⊢
  generalize hsz : min 60 xs.length = size at hq
  have hs60 : size ≤ 60 := by omega
  have e18 : ∀ {es : List Cell}, EvE T rI (tOp (L2.rI CPow fun i j => .int (i ^ j.toNat)) (tC (.int 10)) (tC (.int 18))) es 1000000000000000000 := ev_powK ev_int ev_int (by decide) (by decide) (by decide) (by decide)
  generalize hkd : drawN (xs.getD 0 0 % 1000000000000000000 + (b : Int)) 6 6 = kind
  have hk6 : kind < 6 := by
    rw [← hkd]
    exact draw_lt (by omega)
  refine go_seq (go_parEE (by decide) (ev_is (ev_min2N (ev_k (n := 60) rfl) (ev_len (ev_var (i := 0) rfl))) hsz)
    (ev_is (ev_call (xs.getD 0 0 % 1000000000000000000 + (b : Int), 6, 6) (ea_cons (ev_addI (ev_modI (ev_call (xs, 0) (ea_cons (ev_var (i := 0) rfl) (ea_cons (ev_k rfl) ea_nil)) trivial) e18 (by decide)) (ev_NI (ev_var (i := 1) rfl))) (ea_cons (ev_k rfl) (ea_cons (ev_k rfl) ea_nil))) (And.intro (cell_bits hb) (And.intro (show 6 < 1000 by omega) (show 0 < 6 by omega)))) hkd) (to_go ?_))
  refine go_seq (go_parOO (eo_listRg (ev_var (i := 2) (x := size) rfl) (by omega)) (eo_lst0 (R := rN)) (to_go ?_))
  refine go_seq (go_forS (xs := List.range size) [6] (fun s : List Nat × List Nat => [.val (rL rI) xs, .val rN b, .val rN size, .val rN kind, .own (oL rN) s.1, .own (oL rN) s.2, .no, .no, .no, .no, .no, .no, .no, .no])
    (fun i s => (s.2 ++ s.1).Perm (List.range size) ∧ s.2.length = i) (List.range size, []) (evi_rng1 (ev_var (i := 2) rfl) (by omega)) Wk.refl ⟨by simp, rfl⟩ (fun G1 sh i x s hx ps => ?_) fun s ps => ?_)
  · obtain ⟨left, line⟩ := s
    obtain ⟨p1, p2⟩ := ps
    dsimp only at p1 p2
    obtain ⟨rfl, hi⟩ : x = i ∧ i < size := by
      obtain ⟨h1, h2⟩ := List.getElem?_eq_some_iff.mp hx
      simp at h1 h2
      exact ⟨h2.symm, h1⟩
    have hll : line.length + left.length = size := by
      have := p1.length_eq
      rwa [List.length_append, List.length_range] at this
    refine ⟨_, tg_name, ?_⟩
    have hxs : x < xs.length := by omega
    generalize hv : valN xs[x] (x + b) 900000 = v
    have hvl : v % left.length < left.length := Nat.mod_lt _ (by omega)
    refine go_appPop (i := 4) (j := 5) (k := v % left.length) (x := left[v % left.length]) (by decide) rfl rfl (show line.length < 100000 by omega) (List.getElem?_eq_getElem hvl)
      (ev_modN (ev_is (ev_call (xs[x], x + b, 900000) (ea_cons (ev_ixL (ev_var (i := 0) rfl) (ev_var (i := 6) rfl) (List.getElem?_eq_getElem hxs)) (ea_cons (ev_addN (ev_var (i := 6) rfl) (ev_var (i := 1) rfl)) (ea_cons (ev_k rfl) ea_nil))) (And.intro (hbits _ (List.getElem_mem hxs)) (And.intro (show x + b < 1000 by omega) (show 0 < 900000 by omega)))) hv) (ev_lenO (i := 4) rfl) (by omega))
      (to_S (left.eraseIdx (v % left.length), line ++ [left[v % left.length]]) ⟨?_, by simp [p2]⟩ (.keep (.keep (.keep (.keep (.keep (.keep (.drop (.keep (.keep (.keep (.keep (.keep (.keep (.keep .nil)))))))))))))))
    refine List.Perm.trans ?_ p1
    rw [List.append_assoc]
    exact (erase_perm hvl).append_left line
  obtain ⟨left, line⟩ := s
  obtain ⟨p1, p2⟩ := ps
  dsimp only at p1 p2
  rw [List.length_range] at p2
  have hleft : left = [] := by
    have := p1.length_eq
    rw [List.length_append, List.length_range] at this
    exact List.length_eq_zero_iff.mp (by omega)
  subst hleft
  rw [List.append_nil] at p1
  have hline : IsP line := by
    unfold IsP
    rw [p2]
    exact p1
  refine to_go (go_seq (go_if (eb_test (ev_eqN (ev_var (i := 3) rfl) (ev_k (n := 0) rfl))) (fun hb2 => ?_) fun hb2 => ?_))
  · exact go_retV (i := 5) (x := line) rfl fun v G H F st fr r => hq line v G H F ⟨hline, p2⟩ st fr r
  have hk0 : kind ≠ 0 := of_decide_eq_false hb2
  refine go_next (to_go (go_frz 5 (rL rN) rfl frz_L ?_))
  refine go_seq (go_parOE (eo_listRg (ev_var (i := 2) (x := size) rfl) (by omega)) (ev_k (n := 0) rfl) (to_go ?_))
  refine go_seq (go_whileS (fun s : List Nat × Nat => [.val (rL rI) xs, .val rN b, .val rN size, .val rN kind, .no, .val (rL rN) line, .no, .own (oL rN) s.1, .val rN s.2, .no, .no, .no, .no, .no])
    (fun s => IsP s.1 ∧ s.1.length = size ∧ s.2 ≤ 100 ∧ ∀ x ∈ line.drop s.2, s.1[x]? = some x) (fun s => size - s.2) (fun s => decide (s.2 < size)) (List.range size, 0) (.keep (.keep (.keep (.keep (.drop (.keep (.keep (.keep (.keep (.keep (.keep (.keep (.keep (.keep .nil))))))))))))))
    ⟨range_P size, by simp, by omega, fun x hx => ?_⟩ (fun s ps => eb_test (ev_ltN (ev_var (i := 8) rfl) (ev_var (i := 2) rfl))) (fun s ps hb3 => ?_) fun s ps hb3 => ?_)
  · rw [List.drop_zero] at hx
    have : x < size := by
      rw [← p2]
      exact hline.mem.mp hx
    simp [this]
  · obtain ⟨found, at_⟩ := s
    obtain ⟨q1, q2, q3, q4⟩ := ps
    dsimp only at q1 q2 q3 q4
    have hat : at_ < size := of_decide_eq_true hb3
    generalize hdr : drawN (xs.getD at_ 0 % 1000000000000000000) (at_ % 7 + b) 9 = dr
    have hd9 : dr < 9 := by
      rw [← hdr]
      exact draw_lt (by omega)
    refine go_seq (go_asg (ev_is (ev_call (xs.getD at_ 0 % 1000000000000000000, at_ % 7 + b, 9) (ea_cons (ev_modI (ev_call (xs, at_) (ea_cons (ev_var (i := 0) rfl) (ea_cons (ev_var (i := 8) rfl) ea_nil)) trivial) e18 (by decide)) (ea_cons (ev_addN (ev_modN (ev_var (i := 8) rfl) (ev_k (n := 7) rfl) (by omega)) (ev_var (i := 1) rfl)) (ea_cons (ev_k rfl) ea_nil))) (And.intro cell_bits0 (And.intro (show at_ % 7 + b < 1000 by omega) (show 0 < 9 by omega)))) hdr) (to_go ?_))
    have ht3 : dr % 3 < ([2, 6, 3] : List Nat).length := Nat.mod_lt _ (by decide)
    have hk5 : kind - 1 < ([1, 2, 3, 1 + dr, ([2, 6, 3] : List Nat)[dr % 3]] : List Nat).length := by
      show kind - 1 < 5
      omega
    generalize hlen : ([1, 2, 3, 1 + dr, ([2, 6, 3] : List Nat)[dr % 3]] : List Nat)[kind - 1] = len
    have hlb : 0 < len ∧ len < 20 := by
      have h3 : ([2, 6, 3] : List Nat)[dr % 3] ∈ ([2, 6, 3] : List Nat) := List.getElem_mem _
      have h5 := List.getElem_mem hk5
      rw [hlen] at h5
      simp only [List.mem_cons, List.not_mem_nil, or_false] at h3 h5
      omega
    refine go_seq (go_asg (ev_ixT (xs := [1, 2, 3, 1 + dr, ([2, 6, 3] : List Nat)[dr % 3]]) (ev_tupT (ea_cons (ev_k rfl) (ea_cons (ev_k rfl) (ea_cons (ev_k rfl) (ea_cons (ev_addN (ev_k (n := 1) rfl) (ev_var (i := 9) rfl)) (ea_cons (ev_ixT (xs := [2, 6, 3]) (ev_tupT (ea_cons (ev_k rfl) (ea_cons (ev_k rfl) (ea_cons (ev_k rfl) ea_nil))) (by simp)) (ev_modN (ev_var (i := 9) rfl) (ev_k (n := 3) rfl) (by omega)) (List.getElem?_eq_getElem ht3)) ea_nil))))) (by simp))
      (ev_subN (ev_var (i := 3) rfl) (ev_k (n := 1) rfl) (by omega)) ((List.getElem?_eq_getElem hk5).trans (congrArg some hlen))) (to_go ?_))
    refine go_seq (go_asg (ev_frz frz_L (eo_slice (ev_var (i := 5) rfl) (po_so (ev_var (i := 8) rfl)) (po_so (ev_addN (ev_var (i := 8) rfl) (ev_var (i := 10) rfl))))) (to_go ?_))
    have hring : cutN line (some at_) (some (at_ + len)) = (line.drop at_).take len := by
      show (line.drop at_).take (at_ + len - at_) = _
      rw [Nat.add_sub_cancel_left]
    rw [hring]
    generalize hrg : (line.drop at_).take len = ring
    have hrn : ring.Nodup := by
      rw [← hrg]
      exact (hline.nodup.sublist (List.drop_sublist _ _)).sublist (List.take_sublist _ _)
    have hrm : ∀ x ∈ ring, found[x]? = some x := fun x hx => q4 x (by
      rw [← hrg] at hx
      exact List.mem_of_mem_take hx)
    have hrl : ring.length ≤ 60 := by
      rw [← hrg, List.length_take, List.length_drop]
      omega
    refine go_seq (go_forS (xs := ring.zip (rot1 ring)) [12, 13] (fun s : List Nat => [.val (rL rI) xs, .val rN b, .val rN size, .val rN kind, .no, .val (rL rN) line, .no, .own (oL rN) s, .val rN at_, .no, .val rN len, .val (rL rN) ring, .no, .no])
      (fun k s => s = setAll found ((ring.zip (rot1 ring)).take k)) found
      (evi_zip (ev_var (i := 11) rfl) (ev_frz frz_L (eo_cat (ev_frz frz_L (eo_slice (ev_var (i := 11) rfl) (po_so (ev_k (n := 1) rfl)) po_no)) (ev_frz frz_L (eo_slice (ev_var (i := 11) rfl) po_no (po_so (ev_k (n := 1) rfl)))) (by
        show (ring.drop 1).length + (ring.take 1).length ≤ 100000
        rw [List.length_drop, List.length_take]
        omega)))) (.keep (.keep (.keep (.keep (.keep (.keep (.keep (.keep (.keep (.drop (.keep (.keep (.keep (.keep .nil)))))))))))))) (by simp [setAll]) (fun G2 sh2 k p s2 hp2 ps2 => ?_) fun s2 ps2 => ?_)
    · refine ⟨_, tg_tup (R := rN) (S := rN) tg_name tg_name, ?_⟩
      have hm : p.1 ∈ ring := List.mem_of_getElem? (List.getElem?_zip_eq_some.mp hp2).1
      have hlt : p.1 < s2.length := by
        rw [ps2, setAll_length]
        exact (List.getElem?_eq_some_iff.mp (hrm _ hm)).1
      refine go_setL (i := 7) (k := p.1) rfl hlt (ev_var (i := 13) rfl) (ev_var (i := 12) rfl) (to_S (s2.set p.1 p.2) ?_ (.keep (.keep (.keep (.keep (.keep (.keep (.keep (.keep (.keep (.keep (.keep (.keep (.drop (.drop .nil)))))))))))))))
      rw [List.take_add_one, hp2, ps2]
      show _ = setAll found (_ ++ [p])
      rw [setAll_app]
      rfl
    · rw [List.take_length] at ps2
      obtain ⟨r1, r2⟩ := lay_ring q1 hrn hrm
      refine to_go (go_asg (ev_addN (ev_var (i := 8) rfl) (ev_var (i := 10) rfl)) (to_S (s2, at_ + len) ⟨⟨by rw [ps2]; exact r1, by rw [ps2, setAll_length]; exact q2, by dsimp only; omega, fun x hx => ?_⟩, by dsimp only; omega⟩ (.keep (.keep (.keep (.keep (.keep (.keep (.keep (.keep (.keep (.keep (.drop (.drop (.keep (.keep .nil))))))))))))))))
      dsimp only at hx ⊢
      rw [ps2, r2 x fun hxr => ?_]
      · exact q4 x (by
          have : line.drop (at_ + len) = (line.drop at_).drop len := by rw [List.drop_drop]
          rw [this] at hx
          exact List.mem_of_mem_drop hx)
      · have hd : (line.drop at_).Nodup := hline.nodup.sublist (List.drop_sublist _ _)
        rw [← List.take_append_drop len (line.drop at_), List.nodup_append] at hd
        rw [← hrg] at hxr
        rw [show line.drop (at_ + len) = (line.drop at_).drop len by rw [List.drop_drop]] at hx
        exact hd.2.2 x hxr x hx rfl
  · obtain ⟨found, at_⟩ := s
    exact to_go (go_retV (i := 7) (x := found) rfl fun v G H F st fr r => hq found v G H F ⟨ps.1, ps.2.1⟩ st fr r)
end
end AO
set_option Elab.async false
set_option linter.all false
set_option maxRecDepth 100000
set_option maxHeartbeats 4000000
/-! AOL3: the law's helpers. -/
namespace AO
open PySem L2
theorem look_put {α : Type} {xs : List (Int × α)} {k j : Int} {v : α} : lookD (putD xs k v) j = if j = k then some v else lookD xs j := by
  induction xs with
  | nil =>
    by_cases e : k = j
    · simp [putD, lookD, e]
    · have : ¬ j = k := fun h => e h.symm
      simp [putD, lookD, e, this]
  | cons p l ih =>
    by_cases hp : p.1 = k
    · have hput : putD (p :: l) k v = (p.1, v) :: l.map (fun q => if q.1 = k then (q.1, v) else q) := by
        simp [putD, hp]
      rw [hput]
      by_cases e : j = k
      · subst e
        simp [lookD, hp]
      · have e2 : ¬ p.1 = j := fun h => e (by rw [← h, hp])
        have e3 : ¬ k = j := fun h => e h.symm
        rw [if_neg e]
        show ((List.find? _ ((p.1, v) :: _)).map _) = ((List.find? _ (p :: l)).map _)
        rw [List.find?_cons_of_neg (by simpa using e2), List.find?_cons_of_neg (by simpa using e2), List.find?_map]
        have : ((fun q : Int × α => decide (q.1 = j)) ∘ fun q => if q.1 = k then (q.1, v) else q) = fun q => decide (q.1 = j) := by
          funext q
          dsimp
          split <;> rfl
        rw [this]
        cases hf : l.find? fun q => decide (q.1 = j) with
        | none => rfl
        | some q =>
          have := List.find?_some hf
          have hq : q.1 = j := by simpa using this
          have : ¬ q.1 = k := fun h => e (by rw [← hq, h])
          simp [this]
    · have hput : putD (p :: l) k v = p :: putD l k v := by
        unfold putD
        simp only [List.any_cons, decide_eq_false hp, Bool.false_or]
        split
        · simp [hp]
        · rfl
      rw [hput]
      by_cases e2 : p.1 = j
      · have : ¬ j = k := fun h => hp (by rw [e2, h])
        simp [lookD, e2, this]
      · have a1 : lookD (p :: putD l k v) j = lookD (putD l k v) j := by simp [lookD, e2]
        have a2 : lookD (p :: l) j = lookD l j := by simp [lookD, e2]
        rw [a1, a2, ih]
section
variable {T : List (Addr × Str)} {es : List Cell} {ta tb : TE} {K : PySem.W.Frag}
theorem ev_indexN {xs : List Nat} {y j : Nat} (h : EvE T (rL rN) ta es xs) (hy : EvE T rN tb es y) (hj : xs[j]? = some y) (hn : xs.Nodup) : EvE T rN (tBM K "list" (rIndex K) ta (tCons tb tNil)) es j := fun G0 H0 G H σ F m Q q => h G0 H0 G H σ F m _ fun v G1 H1 s1 r => by
  obtain ⟨a, vs, rfl, hs, hl, ha⟩ := r
  have hs1 := Evl.sq_of (K := K) (s1.m.ex _ _ hs)
  refine ⟨.inl ⟨rfl, vs, hs1⟩, hy G0 H0 G1 H1 σ F (m.step s1) _ fun w G2 H2 s2 r2 => ?_⟩
  have hs2 := Evl.sq_of (K := K) (s2.m.ex _ _ (s2.g _ _ hs))
  obtain ⟨z, hz, rz⟩ := ha.get hj
  have hw : w = .int (y : Int) := r2
  have hz2 : z = .int (y : Int) := rz
  refine ⟨a, vs, w, j, z, rfl, rfl, hs2, ?_, ?_, hz, ?_, fun m' z' hm hz' => ?_, q _ G2 H2 (s1.trans s2) rfl⟩
  · rw [hw]
    rfl
  · rw [vals_nat ha, List.all_eq_true]
    intro u hu
    obtain ⟨i, _, rfl⟩ := List.mem_map.mp hu
    rfl
  · rw [hw, hz2]
    simp [eqV]
  · obtain ⟨x, hx, rx⟩ := ha.getl hz'
    have hxy : x ≠ y := fun e => by
      rw [e] at hx
      have := at_inj hn hx hj
      omega
    rw [hw, show z' = .int (x : Int) from rx]
    have : ¬ ((x : Int) = (y : Int)) := by omega
    simp [eqV, this]
end
theorem map_all {α β : Type} (xs : List α) (f : α → β) : (xs.filter fun _ => true).map f = xs.map f := by
  rw [List.filter_eq_self.mpr fun _ _ => rfl]
theorem foldP {α β : Type} (f : β → α → β) (b : β) (xs : List α) (i : Nat) {x : α} (h : xs[i]? = some x) : (xs.take (i + 1)).foldl f b = f ((xs.take i).foldl f b) x := by
  rw [List.take_add_one, h, List.foldl_append]
  rfl
def countR (d : List (Int × Nat)) (r : List Nat) : List (Int × Nat) := putD d r.length ((lookD d r.length).getD 0 + 1)
def lenF (σ : List Nat) : List (Int × Nat) := (rings σ).foldl countR []
section
variable {P : Program} {w : World} {K : PySem.W.Frag} {mg : Str → Option Value} {base : Heap} {T : List (Addr × Str)}
abbrev spLIsO (T : List (Addr × Str)) : Sp := spE T (fun i : List Nat × Nat => [.val (rL rN) i.1, .val rN i.2]) (fun i => i.1.length ≤ 1000 ∧ i.2 ≤ 1000) rB fun i => decide (sortN i.1 = List.range i.2)
abbrev spLRings (T : List (Addr × Str)) : Sp := spO T (fun σ : List Nat => [.val (rL rN) σ]) (fun σ => IsP σ ∧ σ.length ≤ 70) (oL (rL rN)) rings
abbrev spLens (T : List (Addr × Str)) : Sp := spO T (fun σ : List Nat => [.val (rL rN) σ]) OkO (oD rN) lenF

end
end AO
set_option Elab.async false
set_option linter.all false
set_option maxRecDepth 100000
set_option maxHeartbeats 2000000
/-! AOExpr4: min, sum, sorted lists of lists, where a list stands in a list, and taking it out. -/
namespace AO
open PySem L2
section
variable {T : List (Addr × Str)} {G0 H0 : Hp} {es : List Cell} {α : Type} {R : Rep α} {x : α} {te ta tb : TE} {D : Ends} {K : PySem.W.Frag}
theorem ev_minL {xs : List Nat} {m : Nat} (h : EvE T (rL rN) ta es xs) (hm : m ∈ xs) (hl : ∀ y ∈ xs, m ≤ y) : EvE T rN (tCB (rMin K) (tCons ta tNil)) es m := fun G0 H0 G H σ F mm Q q => h G0 H0 G H σ F mm _ fun v G1 H1 s1 r => by
  obtain ⟨a, vs, rfl, hs, _, ha⟩ := r
  refine ⟨a, xs.map (fun n : Nat => (n : Int)), rfl, by rw [← vals_nat ha]; exact Evl.sq_of (s1.m.ex _ _ hs), by rw [List.length_map]; exact List.length_pos_of_mem hm, fun k hk hle => ?_⟩
  have e : k = (m : Int) := by
    obtain ⟨n, hn, rfl⟩ := List.mem_map.mp hk
    have h1 := hl n hn
    have h2 := hle (m : Int) (List.mem_map.mpr ⟨m, hm, rfl⟩)
    omega
  subst e
  exact q _ G1 H1 s1 rfl
theorem ev_sumL {xs : List Nat} (h : EvE T (rL rN) ta es xs) : EvE T rN (tCB (rSum K) (tCons ta tNil)) es xs.sum := fun G0 H0 G H σ F mm Q q => h G0 H0 G H σ F mm _ fun v G1 H1 s1 r => by
  obtain ⟨a, vs, rfl, hs, _, ha⟩ := r
  refine ⟨a, xs.map (fun n : Nat => (n : Int)), rfl, by rw [← vals_nat ha]; exact Evl.sq_of (s1.m.ex _ _ hs), ?_⟩
  have e : (xs.map (fun n : Nat => (n : Int))).sum = ((xs.sum : Nat) : Int) := by
    clear hs ha q h
    induction xs with
    | nil => rfl
    | cons n xs ih =>
      rw [List.map_cons, List.sum_cons, ih, List.sum_cons]
      omega
  rw [e]
  exact q _ G1 H1 s1 rfl
abbrev dL (xs : List Nat) : PyData := .list (xs.map fun i : Nat => .int (i : Int))
theorem dL_eqv {a b : List Nat} : PyData.eqv (dL a) (dL b) = decide (a = b) := bool_iff (dt_LN.eq a b)
theorem dLL_shaped (xss : List (List Nat)) : SeqAt.shaped (.list (xss.map dL)) = true := dt_LLN.shaped xss
theorem dL_shaped (xs : List Nat) : SeqAt.shaped (dL xs) = true := dt_LN.shaped xs
/-- xss.index(ys) -/
theorem ev_indexD {xss : List (List Nat)} {ys : List Nat} (h : EvE T (rL (rL rN)) ta es xss) (hy : EvE T (rL rN) tb es ys) (hm : ys ∈ xss) : EvE T rN (tBM K "list" (rIndexD K) ta (tCons tb tNil)) es (xss.idxOf ys) := fun G0 H0 G H σ F m Q q => h G0 H0 G H σ F m _ fun v G1 H1 s1 r => by
  obtain ⟨a, vs, rfl, hs, hl, ha⟩ := r
  have hs1 := Evl.sq_of (K := K) (s1.m.ex _ _ hs)
  refine ⟨.inl ⟨rfl, vs, hs1⟩, hy G0 H0 G1 H1 σ F (m.step s1) _ fun w G2 H2 s2 r2 => ?_⟩
  have hj : xss.idxOf ys < xss.length := List.idxOf_lt_length_of_mem hm
  have hll : (rL (rL rN)).r G2 (.ref a) xss := ⟨a, vs, rfl, s2.g _ _ hs, hl, ha.imp fun _ _ => (rL rN).mono s2.g⟩
  refine ⟨a, w, dL ys, xss.map dL, xss.idxOf ys, dL ys, rfl, rfl, dt_LLN.dp K H2 _ xss ((rL (rL rN)).mono s2.m.ex hll), dt_LN.dp K H2 w ys ((rL rN).mono s2.m.ex r2), dLL_shaped xss, dL_shaped ys, ?_, ?_, fun k z' hk hz => ?_, q _ G2 H2 (s1.trans s2) rfl⟩
  · rw [List.getElem?_map, List.getElem?_eq_getElem hj, List.getElem_idxOf hj]
    rfl
  · rw [dL_eqv]
    simp
  · rw [List.getElem?_map] at hz
    obtain ⟨zs, hzs, rfl⟩ := Option.map_eq_some_iff.mp hz
    rw [dL_eqv]
    refine decide_eq_false fun e => ?_
    subst e
    have hkl := (List.getElem?_eq_some_iff.mp hzs)
    obtain ⟨h1, h2⟩ := hkl
    have := List.not_of_lt_findIdx (p := fun z => z == zs) (xs := xss) (i := k) hk
    rw [h2] at this
    simp at this
/-- what remove of a list of lists asks -/
def rRemLL (K : PySem.W.Frag) : V → List V → Hp → VK → Prop := fun x xs H Q => ∃ (p : Addr) (y : V) (ws : List V) (d : PyData) (ds : List PyData) (j : Nat), x = .ref p ∧ xs = [y] ∧ H p = some (.lst ws) ∧ DpAll K H ws ds ∧ Dp K H y d ∧ SeqAt.shaped (.list ds) = true ∧ SeqAt.shaped d = true ∧
  (∃ z, ds[j]? = some z ∧ PyData.eqv z d = true) ∧ (∀ (k : Nat) (z : PyData), k < j → ds[k]? = some z → PyData.eqv z d = false) ∧ Q .non (upd H p (.lst (ws.eraseIdx j)))
theorem mt_removeD {X : Cx} (room : X.A.units + 65 < cLine) : MtM X "list.remove" (rRemLL X.K) := fun pins s σ H x xs v us Q I rx rxs h => by
  obtain ⟨p, y, ws, d, ds, j, rfl, rfl, hp, hall, hy, sh1, sh2, ⟨z, hz, hzd⟩, before, q⟩ := h
  cases rx
  obtain ⟨u, rfl, ru⟩ := rxs.one
  obtain ⟨big, its, n, rv, len, ho⟩ := I.lstM hp
  obtain ⟨ad, rd⟩ := Dp.reads I d y u hy ru
  obtain ⟨al, rl⟩ := Dp.readsAll I ds ws its hall rv
  have lay : PyData.canLayAll0 ds = true := SeqAt.canLay_of_shaped sh1
  have lens : its.length = ds.length := SeqAt.ReadsAll.length ds its al rl
  have same := SeqAt.readsAll_map ds its al lay rl
  have hjd : j < ds.length := (List.getElem?_eq_some_iff.mp hz).1
  have val : ∀ k (hk : k < its.length) (z' : PyData), ds[k]? = some z' → SeqAt.readOf s.heap its[k] = z' := fun k hk z' hz' => by
    rw [← same, List.getElem?_map, List.getElem?_eq_getElem hk] at hz'
    exact Option.some.inj hz'
  have hbig : its.length ≤ sizeLine := by omega
  refine call_meets PySem.F.slot_list_remove ⟨_, ho, rfl⟩ PySem.F.entry_list_remove (PySem.F.args_list_remove_2 _ _) (SeqAt.list_removeAt p its.toArray n none #[] u (fun w => PyData.eqv (SeqAt.readOf s.heap w) d) j (by simpa using (show j < its.length by omega)) ?_ (fun k hk hkj => ?_) (by simpa using hbig))
    ⟨ho, SeqAt.items_eqAt (vs := its.toArray) (show ReadsAll s.heap its.toArray.toList ds al from rl) rd lay (SeqAt.canLay_of_shaped sh2) (PyProof.Rows.room_in_shaped sh2 room), .non, _, I.lset (its' := its.eraseIdx j) (t' := s.toks) hp ho ?_ (rv.eraseIdx j) ?_, rfl, q⟩
  · have := val j (by omega) z hz
    show PyData.eqv (SeqAt.readOf s.heap (its.toArray[j]'_)) d = true
    simp only [List.getElem_toArray]
    rw [this]
    exact hzd
  · have hk' : k < its.length := by simpa using hk
    have hzk : ds[k]? = some (ds[k]'(by omega)) := List.getElem?_eq_getElem _
    have := val k hk' _ hzk
    show PyData.eqv (SeqAt.readOf s.heap (its.toArray[k]'_)) d = false
    simp only [List.getElem_toArray]
    rw [this]
    exact before k _ hkj hzk
  · show its.toArray.eraseIdxIfInBounds j = (its.eraseIdx j).toArray
    rw [List.eraseIdxIfInBounds_toArray]
  · have := List.length_eraseIdx_le ws j
    omega
/-- xss.remove(ys), xss own -/
theorem go_remLL {i : Nat} {xss : List (List Nat)} {ys : List Nat} (hx : es[i]? = some (.own (oL (rL rN)) xss)) (hm : ys ∈ xss) (h : EvE T (rL rN) te es ys) (c : To T G0 H0 D.nx (es.set i (.own (oL (rL rN)) (xss.erase ys)))) :
    Go T G0 H0 (tDrop (tBM K "list" (rRemLL K) (tVar i) (tCons te tNil))) D es := fun G H σ F m => by
  obtain ⟨p, vs, hv, hF, hp, hl, ha⟩ := m.list hx
  refine ⟨_, hv, .inl ⟨rfl, vs, Evl.sq_of hp⟩, h G0 H0 G H σ F m _ fun w G1 H1 s1 r1 => ?_⟩
  have m1 := m.step s1
  have hp1 : H1 p = some (.lst vs) := s1.h p _ hp (fun _ z => by cases z)
  have hj : xss.idxOf ys < xss.length := List.idxOf_lt_length_of_mem hm
  have ha1 : All2 ((rL rN).r H1) vs xss := (ha.imp fun _ _ => (rL rN).mono s1.g).imp fun _ _ => (rL rN).mono s1.m.ex
  refine ⟨p, w, vs, dL ys, xss.map dL, xss.idxOf ys, rfl, rfl, hp1, ?_, dt_LN.dp K H1 w ys ((rL rN).mono s1.m.ex r1), dLL_shaped xss, dL_shaped ys, ⟨dL ys, ?_, ?_⟩, fun k z' hk hz => ?_, ?_⟩
  · have key : ∀ {vs : List V} {xss : List (List Nat)}, All2 ((rL rN).r H1) vs xss → DpAll K H1 vs (xss.map dL) := fun {vs xss} ha => by
      induction ha with
      | nil => exact .nil
      | cons a t ih => exact .cons (dt_LN.dp K H1 _ _ a) ih
    exact key ha1
  · rw [List.getElem?_map, List.getElem?_eq_getElem hj, List.getElem_idxOf hj]
    rfl
  · rw [dL_eqv]
    simp
  · rw [List.getElem?_map] at hz
    obtain ⟨zs, hzs, rfl⟩ := Option.map_eq_some_iff.mp hz
    rw [dL_eqv]
    refine decide_eq_false fun e => ?_
    subst e
    obtain ⟨h1, h2⟩ := List.getElem?_eq_some_iff.mp hzs
    have := List.not_of_lt_findIdx (p := fun z => z == zs) (xs := xss) (i := k) hk
    rw [h2] at this
    simp at this
  · have he : xss.erase ys = xss.eraseIdx (xss.idxOf ys) := List.erase_eq_eraseIdx_of_idxOf rfl
    rw [he] at c
    refine c G1 _ _ _ (m1.upd (O' := oL (rL rN)) (y := xss.eraseIdx (xss.idxOf ys)) hF (o' := .lst (vs.eraseIdx (xss.idxOf ys))) pl_lst hv ⟨p, vs.eraseIdx (xss.idxOf ys), rfl, rfl, ?_, (ha.imp fun _ _ => (rL rN).mono s1.g).eraseIdx _⟩)
    have := List.length_eraseIdx_le vs (xss.idxOf ys)
    omega
end
end AO
set_option Elab.async false
set_option linter.all false
set_option maxRecDepth 100000
set_option maxHeartbeats 2000000
/-! AOExpr5: sorted, a list of lists of numbers. -/
namespace AO
open PySem L2
abbrev upI (ys : List Nat) : List Int := ys.map fun n : Nat => (n : Int)
abbrev encR (b : V × List Nat) : PyData := .list ((upI b.2).map PyData.int)
theorem enc_dL (b : V × List Nat) : encR b = dL b.2 := by
  show PyData.list _ = PyData.list _
  rw [List.map_map]
  rfl
theorem alike_rows : ∀ xs ys : List Int, PySem.W.alikeAll (xs.map PyData.int) (ys.map PyData.int) = true
  | [], _ => by simp [PySem.W.alikeAll]
  | _ :: _, [] => by simp [PySem.W.alikeAll]
  | x :: xs, y :: ys => by
    simp [PySem.W.alikeAll, PySem.W.alike, alike_rows xs ys]
def leN (a b : List Nat) : Bool := decide (upI a ≤ upI b)
def leV (p q : V × List Nat) : Bool := decide (upI p.2 ≤ upI q.2)
theorem leV_data : PySem.W.dataLe false encR = leV := PySem.W.dataLe_rows fun b : V × List Nat => upI b.2
def sortLL (xss : List (List Nat)) : List (List Nat) := xss.mergeSort leN
theorem upI_inj {a b : List Nat} (h : upI a = upI b) : a = b := by
  have := congrArg (List.map Int.toNat) h
  rw [List.map_map, List.map_map] at this
  have e : ∀ l : List Nat, l.map (Int.toNat ∘ fun n : Nat => (n : Int)) = l := fun l => by
    conv => rhs; rw [← List.map_id l]
    apply List.map_congr_left
    intro x _
    rfl
  rwa [e, e] at this
theorem sortLL_perm {a b : List (List Nat)} (h : a.Perm b) : sortLL a = sortLL b := by
  have tr : ∀ x y z : List Nat, leN x y = true → leN y z = true → leN x z = true := fun x y z h1 h2 => decide_eq_true (List.le_trans (of_decide_eq_true h1) (of_decide_eq_true h2))
  have to : ∀ x y : List Nat, (leN x y || leN y x) = true := fun x y => by
    rw [Bool.or_eq_true]
    rcases List.le_total (upI x) (upI y) with q | q
    · exact .inl (decide_eq_true q)
    · exact .inr (decide_eq_true q)
  refine List.Perm.eq_of_pairwise (le := fun x y => leN x y = true) (fun x y _ _ h1 h2 => upI_inj (List.le_antisymm (of_decide_eq_true h1) (of_decide_eq_true h2))) (List.pairwise_mergeSort (le := leN) tr to a) (List.pairwise_mergeSort (le := leN) tr to b) ?_
  exact (List.mergeSort_perm a leN).trans (h.trans (List.mergeSort_perm b leN).symm)
/-- what sorted of such a list asks -/
def rSortedLL (K : PySem.W.Frag) : List V → Hp → VK → Prop := fun vs H Q => ∃ (a : Addr) (bs : List (V × List Nat)), vs = [V.ref a] ∧ SqL K H a (bs.map (·.1)) ∧ (∀ p ∈ bs, Dp K H p.1 (dL p.2)) ∧
  ∀ p, H p = none → Q (.ref p) (upd H p (.lst ((bs.mergeSort leV).map (·.1))))
theorem cr_sortedLL {X : Cx} (room : X.A.units + 65 < cLine) : CallR X (.builtin "sorted") (rSortedLL X.K) := fun pins s σ H vs us Q I r h => by
  obtain ⟨a, bs, rfl, hs, hd, q⟩ := h
  obtain ⟨its, rv, hl, big⟩ := I.list hs
  rw [Vals.ref1 r]
  rw [List.length_map] at big
  have each : ∀ {its : List Value} {bs : List (V × List Nat)}, Vals (bs.map (·.1)) its → (∀ p ∈ bs, Dp X.K H p.1 (dL p.2)) → PySem.W.EachIs (fun u b => RelV b.1 u) its bs ∧ PySem.W.EachIs (fun u b => ∃ as, Reads s.heap u (encR b) as) its bs := fun {its bs} rv hd => by
    induction bs generalizing its with
    | nil =>
      cases rv
      exact ⟨.nil, .nil⟩
    | cons b bs ih =>
      cases rv with
      | cons r1 r2 =>
        obtain ⟨e1, e2⟩ := ih r2 fun p hp => hd p (List.mem_cons_of_mem _ hp)
        refine ⟨.cons r1 e1, .cons ?_ e2⟩
        rw [enc_dL]
        exact Dp.reads I _ _ _ (hd b (List.mem_cons_self ..)) r1
  obtain ⟨e1, e2⟩ := each rv hd
  have deep : ∀ b : V × List Nat, (encR b).depth ≤ 1 := fun b => by
    have := depth_all (d := PyData.int) (n := 0) (fun x => by simp [PyData.depth]) (upI b.2)
    simp only [PyData.depth]
    omega
  refine PySem.W.sorted_data (enc := encR) (R := fun u b => RelV b.1 u) hl.isList e1 e2 (PySem.W.AllAlike.of fun b b' => alike_rows _ _) (PySem.W.Sortable.others fun b => ⟨(fun z => nomatch z), (fun xs z => nomatch z)⟩) big (fun b _ => by have := deep b; omega) fun out lo eo => ?_
  rw [leV_data] at eo
  obtain ⟨ep, there⟩ := PyProof.Rows.sortedAll_at s.heap its out.toArray
  have back : ∀ {out : List Value} {m : List (V × List Nat)}, PySem.W.EachIs (fun u b => RelV b.1 u) out m → Vals (m.map (·.1)) out := fun {out m} e => by
    induction e with
    | nil => exact .nil
    | cons a _ ih => exact .cons a ih
  have lsz : ((bs.mergeSort leV).map (·.1)).length ≤ sizeLine := by
    rw [List.length_map, List.length_mergeSort]
    exact big
  exact ⟨V.ref (s.heap.objs.size + 1), _, I.laid (t' := s.toks) (fun _ _ z => PyProof.Rows.sortedAll_old z) (Nat.le_succ _) (show ObjOk _ _ _ _ _ (.lst _) from ⟨lsz, out, ep, back eo, there⟩), rfl, q _ (I.hok.fresh (Nat.le_succ _))⟩
section
variable {T : List (Addr × Str)} {G0 H0 : Hp} {es : List Cell} {ta : TE} {K : PySem.W.Frag}
theorem eo_sortedLL {xss : List (List Nat)} (h : EvE T (rL (rL rN)) ta es xss) : EvO T (oL (rL rN)) (tCB (rSortedLL K) (tCons ta tNil)) es (sortLL xss) := fun G0 H0 G H σ F m Q q => h G0 H0 G H σ F m _ fun v G1 H1 s1 r => by
  obtain ⟨a, vs, rfl, hs, hl, ha⟩ := r
  have hlen : vs.length = xss.length := ha.length
  have hf : (vs.zip xss).map (·.1) = vs := List.map_fst_zip (by omega)
  have hsn : (vs.zip xss).map (·.2) = xss := List.map_snd_zip (by omega)
  have each : ∀ p ∈ vs.zip xss, (rL rN).r G1 p.1 p.2 := fun p hp => by
    obtain ⟨i, hi, e⟩ := List.mem_iff_getElem.mp hp
    have e2 : (vs.zip xss)[i]? = some p := by rw [List.getElem?_eq_getElem hi, e]
    obtain ⟨h1, h2⟩ := List.getElem?_zip_eq_some.mp e2
    obtain ⟨z, hz, rz⟩ := ha.get h2
    rw [h1] at hz
    rw [Option.some.inj hz]
    exact rz
  refine ⟨a, vs.zip xss, rfl, by rw [hf]; exact Evl.sq_of (s1.m.ex _ _ hs), fun p hp => dt_LN.dp K H1 _ _ ((rL rN).mono s1.m.ex (each p hp)), fun p hp => newO s1.m (fun v G' H' F' s f r => q v G' H' F' (s1.trans s) (f.back s1.h) r) hp pl_lst ⟨p, _, rfl, rfl, ?_, ?_⟩⟩
  · rw [List.length_map, List.length_mergeSort, List.length_zip]
    omega
  · have e : sortLL xss = ((vs.zip xss).mergeSort leV).map (·.2) := by
      unfold sortLL
      conv => lhs; rw [← hsn]
      exact (List.map_mergeSort (r := leV) (s := leN) (f := fun p : V × List Nat => p.2) (l := vs.zip xss) (fun a _ b _ => rfl)).symm
    rw [e]
    have key : ∀ l : List (V × List Nat), (∀ p ∈ l, (rL rN).r G1 p.1 p.2) → All2 ((rL rN).r G1) (l.map (·.1)) (l.map (·.2)) := fun l hl => by
      induction l with
      | nil => exact .nil
      | cons p l ih => exact .cons (hl p (List.mem_cons_self ..)) (ih fun x hx => hl x (List.mem_cons_of_mem _ hx))
    exact key _ fun p hp => each p ((List.mergeSort_perm _ leV).mem_iff.mp hp)
end
end AO
set_option Elab.async false
set_option linter.all false
/-! AOMathR6: what is woven is a root. -/
namespace AO
theorem idx_inj {s l t i j i' j' : Nat} (hs : 0 < s) (hl : 0 < l) (h : Nat.gcd t (l * s) = s) (hi : i < s) (hi' : i' < s) (hj : j < l) (hj' : j' < l) (e : (i + j * t) % (s * l) = (i' + j' * t) % (s * l)) : i = i' ∧ j = j' := by
  obtain ⟨e0, rfl, hc⟩ := (group_iff hl hs).mp h
  have key : ∀ {i j : Nat}, i < s → (i + j * (s * e0)) % (s * l) = i + s * (j * e0 % l) := fun {i j} hi => by
    have e1 : i + j * (s * e0) = i + s * (j * e0) := by rw [Nat.mul_left_comm]
    rw [e1, Nat.mod_mul, Nat.add_mul_mod_self_left, Nat.mod_eq_of_lt hi, Nat.add_mul_div_left _ _ hs, Nat.div_eq_of_lt hi, Nat.zero_add]
  rw [key hi, key hi'] at e
  have e1 : i = i' := by
    have := congrArg (· % s) e
    simpa [Nat.mod_eq_of_lt hi, Nat.mod_eq_of_lt hi'] using this
  subst e1
  refine ⟨rfl, ?_⟩
  have e2 : j * e0 % l = j' * e0 % l := Nat.eq_of_mul_eq_mul_left hs (by omega)
  have fin : ∀ {a b : Nat}, a ≤ b → b < l → a * e0 % l = b * e0 % l → a = b := fun {a b} hab hb e => by
    have h1 := Nat.sub_mod_eq_zero_of_mod_eq e.symm
    rw [← Nat.sub_mul] at h1
    have h2 : l ∣ b - a := (Nat.Coprime.symm hc).dvd_of_dvd_mul_right (Nat.dvd_of_mod_eq_zero h1)
    rcases Nat.eq_zero_or_pos (b - a) with z | z
    · omega
    · have := Nat.le_of_dvd z h2
      omega
  rcases Nat.le_total j j' with q | q
  · exact fin q hj' e2
  · exact (fin q hj e2.symm).symm
theorem mem_enum {α : Type} {xs : List α} {p : Nat × α} : p ∈ (List.range xs.length).zip xs ↔ xs[p.1]? = some p.2 := by
  constructor
  · intro h
    obtain ⟨i, hi, e⟩ := List.mem_iff_getElem.mp h
    have h2 : ((List.range xs.length).zip xs)[i]? = some p := by rw [List.getElem?_eq_getElem hi, e]
    obtain ⟨a, b⟩ := List.getElem?_zip_eq_some.mp h2
    have hi2 := (List.getElem?_eq_some_iff.mp b).1
    rw [List.getElem?_range hi2] at a
    rw [← Option.some.inj a]
    exact b
  · intro h
    have hi := (List.getElem?_eq_some_iff.mp h).1
    exact List.mem_of_getElem? (i := p.1) (List.getElem?_zip_eq_some.mpr ⟨List.getElem?_range hi, h⟩)
theorem mem_places {rs : List (List Nat)} {t L : Nat} {p : Nat × Nat} : p ∈ placesF rs t L ↔ ∃ i r j, rs[i]? = some r ∧ r[j]? = some p.2 ∧ p.1 = (i + j * t) % L := by
  unfold placesF
  rw [List.mem_flatMap]
  constructor
  · rintro ⟨q, h1, h2⟩
    obtain ⟨u, h3, rfl⟩ := List.mem_map.mp h2
    exact ⟨q.1, q.2, u.1, mem_enum.mp h1, mem_enum.mp h3, rfl⟩
  · rintro ⟨i, r, j, h1, h2, h3⟩
    refine ⟨(i, r), mem_enum.mpr h1, List.mem_map.mpr ⟨(j, p.2), mem_enum.mpr h2, ?_⟩⟩
    rw [← h3]
theorem places_snd (rs : List (List Nat)) (t L : Nat) : (placesF rs t L).map (·.2) = rs.flatten := by
  unfold placesF
  rw [List.map_flatMap]
  have : ∀ p : Nat × List Nat, (((List.range p.2.length).zip p.2).map fun q => ((p.1 + q.1 * t) % L, q.2)).map (·.2) = p.2 := fun p => by
    rw [List.map_map]
    exact List.map_snd_zip (by simp)
  simp only [this]
  rw [List.flatMap_def, List.map_snd_zip (by simp)]
theorem flat_len {l : Nat} : ∀ {rs : List (List Nat)}, (∀ r ∈ rs, r.length = l) → rs.flatten.length = rs.length * l
  | [], _ => by simp
  | r :: rs, h => by
    rw [List.flatten_cons, List.length_append, flat_len fun r hr => h r (List.mem_cons_of_mem _ hr), h r (List.mem_cons_self ..), List.length_cons, Nat.succ_mul]
    omega
theorem flat_mem {rs : List (List Nat)} {x : Nat} : x ∈ rs.flatten ↔ ∃ (i : Nat) (r : List Nat) (j : Nat), rs[i]? = some r ∧ r[j]? = some x := by
  rw [List.mem_flatten]
  constructor
  · rintro ⟨r, h1, h2⟩
    obtain ⟨i, hi⟩ := List.getElem?_of_mem h1
    obtain ⟨j, hj⟩ := List.getElem?_of_mem h2
    exact ⟨i, r, j, hi, hj⟩
  · rintro ⟨i, r, j, h1, h2⟩
    exact ⟨r, List.mem_of_getElem? h1, List.mem_of_getElem? h2⟩
theorem flat_nd {rs : List (List Nat)} (h : rs.flatten.Nodup) : (∀ r ∈ rs, r.Nodup) ∧ rs.Pairwise fun a b => ∀ x ∈ a, x ∉ b := by
  rw [List.nodup_iff_pairwise_ne, List.pairwise_flatten] at h
  exact ⟨fun r hr => List.nodup_iff_pairwise_ne.mpr (h.1 r hr), h.2.imp fun hh x hx hy => hh x hx x hy rfl⟩
theorem flat_inj {rs : List (List Nat)} (h : rs.flatten.Nodup) {i i' j j' x : Nat} {r r' : List Nat} (h1 : rs[i]? = some r) (h2 : r[j]? = some x) (h3 : rs[i']? = some r') (h4 : r'[j']? = some x) : i = i' ∧ j = j' := by
  obtain ⟨n1, n2⟩ := flat_nd h
  have key : ∀ {i i' : Nat} {r r' : List Nat}, rs[i]? = some r → rs[i']? = some r' → x ∈ r → x ∈ r' → ¬ i < i' := fun {i i' r r'} a b c d hlt => by
    obtain ⟨a1, rfl⟩ := List.getElem?_eq_some_iff.mp a
    obtain ⟨b1, rfl⟩ := List.getElem?_eq_some_iff.mp b
    exact List.pairwise_iff_getElem.mp n2 i i' a1 b1 hlt x c d
  have e : i = i' := by
    have a := key h1 h3 (List.mem_of_getElem? h2) (List.mem_of_getElem? h4)
    have b := key h3 h1 (List.mem_of_getElem? h4) (List.mem_of_getElem? h2)
    omega
  subst e
  rw [h1] at h3
  have e := Option.some.inj h3
  subst e
  exact ⟨rfl, at_inj (n1 r (List.mem_of_getElem? h1)) h2 h4⟩
/-- rings that go into one -/
structure Wv (rs : List (List Nat)) (l t : Nat) : Prop where
  len : ∀ r ∈ rs, r.length = l
  pos : 0 < rs.length
  lpos : 0 < l
  nd : rs.flatten.Nodup
  grp : Nat.gcd t (l * rs.length) = rs.length
section
variable {rs : List (List Nat)} {l t : Nat}
theorem Wv.head (h : Wv rs l t) : (rs.getD 0 []).length = l := by
  have hp := h.pos
  rw [List.getD_eq_getElem?_getD, List.getElem?_eq_getElem hp]
  exact h.len _ (List.getElem_mem hp)
theorem Wv.L (h : Wv rs l t) : 0 < rs.length * l := Nat.mul_pos h.pos h.lpos
theorem Wv.wlen (h : Wv rs l t) : (wholeF rs t).length = rs.length * l := by
  unfold wholeF
  rw [setAll_length, List.length_replicate, h.head]
theorem Wv.at_inj (h : Wv rs l t) {i i' j j' x y : Nat} {r r' : List Nat} (h1 : rs[i]? = some r) (h2 : r[j]? = some x) (h3 : rs[i']? = some r') (h4 : r'[j']? = some y) (e : (i + j * t) % (rs.length * l) = (i' + j' * t) % (rs.length * l)) : i = i' ∧ j = j' := by
  have a := (List.getElem?_eq_some_iff.mp h1).1
  have b := (List.getElem?_eq_some_iff.mp h3).1
  have c := (List.getElem?_eq_some_iff.mp h2).1
  have d := (List.getElem?_eq_some_iff.mp h4).1
  rw [h.len r (List.mem_of_getElem? h1)] at c
  rw [h.len r' (List.mem_of_getElem? h3)] at d
  exact idx_inj h.pos h.lpos h.grp a b c d e
theorem Wv.keys (h : Wv rs l t) : ((placesF rs t (rs.length * l)).map (·.1)).Nodup := by
  have h1 := h.nd
  rw [← places_snd rs t (rs.length * l)] at h1
  rw [List.nodup_iff_pairwise_ne, List.pairwise_map] at h1 ⊢
  refine h1.imp_of_mem ?_
  intro a b ha hb hne e
  obtain ⟨i, r, j, a1, a2, a3⟩ := mem_places.mp ha
  obtain ⟨i', r', j', b1, b2, b3⟩ := mem_places.mp hb
  rw [a3, b3] at e
  obtain ⟨rfl, rfl⟩ := h.at_inj a1 a2 b1 b2 e
  rw [a1] at b1
  have e := Option.some.inj b1
  subst e
  rw [a2] at b2
  exact hne (Option.some.inj b2)
theorem Wv.whole_at (h : Wv rs l t) {i j x : Nat} {r : List Nat} (h1 : rs[i]? = some r) (h2 : r[j]? = some x) : (wholeF rs t)[(i + j * t) % (rs.length * l)]? = some x := by
  unfold wholeF
  rw [h.head]
  refine setAll_in (p := ((i + j * t) % (rs.length * l), x)) h.keys (mem_places.mpr ⟨i, r, j, h1, h2, rfl⟩) ?_
  rw [List.length_replicate]
  exact Nat.mod_lt _ h.L
theorem Wv.whole_of (h : Wv rs l t) {k x : Nat} (hk : (wholeF rs t)[k]? = some x) : ∃ i r j, rs[i]? = some r ∧ r[j]? = some x ∧ k = (i + j * t) % (rs.length * l) := by
  have hkl := (List.getElem?_eq_some_iff.mp hk).1
  rw [h.wlen] at hkl
  have hl : ((placesF rs t (rs.length * l)).map (·.1)).length = rs.length * l := by
    have a := congrArg List.length (places_snd rs t (rs.length * l))
    rw [List.length_map, flat_len h.len] at a
    rw [List.length_map, a]
  have hP : IsP ((placesF rs t (rs.length * l)).map (·.1)) := isP_of (fun y hy => by
    rw [hl]
    obtain ⟨p, hp, rfl⟩ := List.mem_map.mp hy
    obtain ⟨i, r, j, _, _, e⟩ := mem_places.mp hp
    rw [e]
    exact Nat.mod_lt _ h.L) h.keys
  obtain ⟨p, hp, rfl⟩ := List.mem_map.mp (hP.mem.mpr (by rw [hl]; exact hkl))
  obtain ⟨i, r, j, a, b, e⟩ := mem_places.mp hp
  have := h.whole_at a b
  rw [← e, hk] at this
  exact ⟨i, r, j, a, by rw [← Option.some.inj this] at b; exact b, e⟩
theorem Wv.whole_mem (h : Wv rs l t) {x : Nat} : x ∈ wholeF rs t ↔ x ∈ rs.flatten := by
  rw [flat_mem]
  constructor
  · intro hx
    obtain ⟨k, hk⟩ := List.getElem?_of_mem hx
    obtain ⟨i, r, j, a, b, _⟩ := h.whole_of hk
    exact ⟨i, r, j, a, b⟩
  · rintro ⟨i, r, j, a, b⟩
    exact List.mem_of_getElem? (h.whole_at a b)
theorem Wv.whole_nd (h : Wv rs l t) : (wholeF rs t).Nodup := nodup_of_at fun a b x ha hb => by
  obtain ⟨i, r, j, a1, a2, rfl⟩ := h.whole_of ha
  obtain ⟨i', r', j', b1, b2, rfl⟩ := h.whole_of hb
  obtain ⟨rfl, rfl⟩ := flat_inj h.nd a1 a2 b1 b2
  rfl
theorem ring_keys (w : List Nat) : (ringPairs w).map (·.1) = w := by
  unfold ringPairs
  rw [List.map_map]
  exact List.map_snd_zip (by simp)
theorem ap_of {ρ : List Nat} {x y : Nat} (h : ρ[x]? = some y) : ap ρ x = y := by
  unfold ap
  rw [List.getD_eq_getElem?_getD, h]
  rfl
theorem Wv.woven_out {root : List Nat} (h : Wv rs l t) {x : Nat} (hx : x ∉ rs.flatten) : ap (wovenF root rs t) x = ap root x := by
  unfold ap wovenF
  rw [List.getD_eq_getElem?_getD, List.getD_eq_getElem?_getD, setAll_out]
  rw [ring_keys]
  exact fun hh => hx (h.whole_mem.mp hh)
theorem Wv.woven_in {root : List Nat} (h : Wv rs l t) (hlt : ∀ x ∈ rs.flatten, x < root.length) {k x : Nat} (hk : (wholeF rs t)[k]? = some x) : (wholeF rs t)[(k + 1) % (rs.length * l)]? = some (ap (wovenF root rs t) x) := by
  have hm : (k + 1) % (rs.length * l) < (wholeF rs t).length := by
    rw [h.wlen]
    exact Nat.mod_lt _ h.L
  have hg : (wholeF rs t)[(k + 1) % (rs.length * l)]? = some ((wholeF rs t).getD ((k + 1) % (rs.length * l)) 0) := by
    rw [List.getD_eq_getElem?_getD, List.getElem?_eq_getElem hm]
    rfl
  rw [hg]
  congr 1
  symm
  refine ap_of ?_
  unfold wovenF
  have hx := List.mem_of_getElem? hk
  refine setAll_in (p := (x, (wholeF rs t).getD ((k + 1) % (rs.length * l)) 0)) ?_ ?_ (hlt x (h.whole_mem.mp hx))
  · rw [ring_keys]
    exact h.whole_nd
  · unfold ringPairs
    refine List.mem_map.mpr ⟨(k, x), mem_enum.mpr hk, ?_⟩
    rw [h.wlen]
theorem Wv.woven_it {root : List Nat} (h : Wv rs l t) (hlt : ∀ x ∈ rs.flatten, x < root.length) {k x : Nat} (hk : (wholeF rs t)[k]? = some x) : ∀ m, (wholeF rs t)[(k + m) % (rs.length * l)]? = some (it (wovenF root rs t) m x)
  | 0 => by
    have := (List.getElem?_eq_some_iff.mp hk).1
    rw [h.wlen] at this
    rw [Nat.add_zero, Nat.mod_eq_of_lt this, hk]
    rfl
  | m + 1 => by
    have := h.woven_in hlt (h.woven_it hlt hk m)
    rw [Nat.mod_add_mod] at this
    exact this
end
/-- a ring under σ, begun anywhere -/
def Cyc (σ : List Nat) (l : Nat) (r : List Nat) : Prop := r.length = l ∧ ∀ j x, r[j]? = some x → r[(j + 1) % l]? = some (ap σ x)
/-- what X holds is done: a root of σ on it -/
def Good (σ root : List Nat) (t : Nat) (X : Nat → Prop) : Prop := ∀ x, X x → X (ap root x) ∧ it root t x = ap σ x
theorem it_same {ρ π : List Nat} {X : Nat → Prop} (hc : ∀ x, X x → X (ap ρ x)) (he : ∀ x, X x → ap π x = ap ρ x) : ∀ (m : Nat) (x : Nat), X x → it π m x = it ρ m x ∧ X (it ρ m x)
  | 0, x, h => ⟨rfl, h⟩
  | m + 1, x, h => by
    obtain ⟨a, b⟩ := it_same hc he m x h
    show ap π (it π m x) = ap ρ (it ρ m x) ∧ X (ap ρ (it ρ m x))
    rw [a]
    exact ⟨he _ b, hc _ b⟩
theorem weave_good {σ root : List Nat} {rs : List (List Nat)} {l t : Nat} {X : Nat → Prop} (h : Wv rs l t) (hlt : ∀ x ∈ rs.flatten, x < root.length) (hc : ∀ r ∈ rs, Cyc σ l r) (hX : Good σ root t X) (hd : ∀ x, X x → x ∉ rs.flatten) : Good σ (wovenF root rs t) t (fun x => X x ∨ x ∈ rs.flatten) := by
  rintro x (hx | hx)
  · obtain ⟨a, b⟩ := hX x hx
    have e := it_same (ρ := root) (π := wovenF root rs t) (fun x hx => (hX x hx).1) (fun x hx => h.woven_out (hd x hx)) t x hx
    refine ⟨?_, by rw [e.1, b]⟩
    rw [h.woven_out (hd x hx)]
    exact .inl a
  · obtain ⟨i, r, j, h1, h2⟩ := flat_mem.mp hx
    have hk := h.whole_at h1 h2
    refine ⟨.inr (h.whole_mem.mp (List.mem_of_getElem? (h.woven_in hlt hk))), ?_⟩
    have e := h.woven_it hlt hk t
    obtain ⟨c1, c2⟩ := hc r (List.mem_of_getElem? h1)
    have hn := h.whole_at h1 (c2 j x h2)
    have e2 : ((i + j * t) % (rs.length * l) + t) % (rs.length * l) = (i + (j + 1) % l * t) % (rs.length * l) := by
      rw [Nat.mod_add_mod]
      have hj := (List.getElem?_eq_some_iff.mp h2).1
      rw [c1] at hj
      by_cases q : j + 1 < l
      · rw [Nat.mod_eq_of_lt q, Nat.add_mul, Nat.one_mul, Nat.add_assoc]
      · have q : j + 1 = l := by omega
        rw [q, Nat.mod_self, Nat.zero_mul, Nat.add_zero, Nat.add_assoc, show j * t + t = (j + 1) * t by rw [Nat.succ_mul], q]
        obtain ⟨e0, rfl, _⟩ := (group_iff h.lpos h.pos).mp h.grp
        rw [show l * (rs.length * e0) = rs.length * l * e0 by rw [Nat.mul_left_comm, Nat.mul_assoc], Nat.add_mul_mod_self_left]
    rw [e2, hn] at e
    exact (Option.some.inj e).symm
theorem rot_get {r : List Nat} {k j : Nat} (hk : k < r.length) (hj : j < r.length) : (r.drop k ++ r.take k)[j]? = r[(j + k) % r.length]? := by
  by_cases q : j + k < r.length
  · rw [List.getElem?_append_left (by rw [List.length_drop]; omega), List.getElem?_drop, Nat.mod_eq_of_lt q, Nat.add_comm]
  · rw [List.getElem?_append_right (by rw [List.length_drop]; omega), List.length_drop, List.getElem?_take, if_pos (by omega)]
    have : (j + k) % r.length = j + k - r.length := by
      rw [Nat.mod_eq_sub_mod (by omega), Nat.mod_eq_of_lt (by omega)]
    rw [this]
    congr 1
    omega
theorem rot_cyc {σ r : List Nat} {l k : Nat} (h : Cyc σ l r) (hk : k < l) : Cyc σ l (r.drop k ++ r.take k) := by
  obtain ⟨h1, h2⟩ := h
  subst h1
  refine ⟨rot_len r k, fun j x hx => ?_⟩
  have hj := (List.getElem?_eq_some_iff.mp hx).1
  rw [rot_len] at hj
  rw [rot_get hk hj] at hx
  rw [rot_get hk (Nat.mod_lt _ (by omega)), Nat.mod_add_mod, ← h2 _ _ hx, Nat.mod_add_mod]
  congr 2
  omega
theorem orb_cyc {σ : List Nat} (h : IsP σ) (s : Nat) : Cyc σ (per σ s) (orb σ s) := by
  refine ⟨orb_length s, fun j x hx => ?_⟩
  have hj := (List.getElem?_eq_some_iff.mp hx).1
  rw [orb_length] at hj
  rw [orb_get hj] at hx
  rw [orb_get (Nat.mod_lt _ (per_pos s)), h.it_mod]
  congr 1
  rw [← Option.some.inj hx]
  rfl
end AO
set_option Elab.async false
set_option linter.all false
/-! AOMathR7: the root told is a root. -/
namespace AO
theorem choose_spec (bl : Nat → Nat) : ∀ {gs : List Nat} {h : Nat}, h < (gs.map bl).sum → (chooseF bl gs h).1 ∈ gs ∧ (chooseF bl gs h).2 < bl (chooseF bl gs h).1
  | [], h, hh => by simp at hh
  | s :: gs, h, hh => by
    unfold chooseF
    split
    · rename_i q
      exact ⟨List.mem_cons_self .., q⟩
    · rename_i q
      rw [List.map_cons, List.sum_cons] at hh
      obtain ⟨a, b⟩ := choose_spec bl (gs := gs) (h := h - bl s) (by omega)
      exact ⟨List.mem_cons_of_mem _ a, b⟩
theorem turn_flat (l : Nat) : ∀ (rs : List (List Nat)) (t : Nat), (turnF l rs t).flatten.Perm rs.flatten
  | [], _ => List.Perm.refl _
  | r :: rs, t => by
    show ((r.drop (t % l) ++ r.take (t % l)) ++ (turnF l rs (t / l)).flatten).Perm (r ++ rs.flatten)
    refine List.Perm.append ?_ (turn_flat l rs (t / l))
    have h := List.perm_append_comm (l₁ := r.drop (t % l)) (l₂ := r.take (t % l))
    rwa [List.take_append_drop] at h
structure TurnOk (l t : Nat) (r0 : List Nat) (rs : List (List Nat)) (T : Turn) : Prop where
  grp : T.size ∈ groupsF l t (rs.length + 1)
  size : T.some.length = T.size
  here : T.here < wayN l t T.rest.length
  some : ∀ r ∈ T.some, ∃ r' ∈ r0 :: rs, ∃ k, r = r'.drop (k % l) ++ r'.take (k % l)
  rest : ∀ r ∈ T.rest, r ∈ rs
  perm : (T.some.flatten ++ T.rest.flatten).Perm (r0 :: rs).flatten
  less : T.rest.length + T.size = rs.length + 1
theorem turn_ok {l t : Nat} (hl : 0 < l) {r0 : List Nat} {rs : List (List Nat)} {here : Nat} (h0 : r0.length = l) (h : here < wayN l t (rs.length + 1)) : TurnOk l t r0 rs (turnAt l t r0 rs here) := by
  rw [way_succ] at h
  have hc := choose_spec (fun s => begunF l s (rs.length + 1) * wayN l t (rs.length + 1 - s)) h
  obtain ⟨c1, c2⟩ := hc
  have hm := mem_groups.mp c1
  unfold turnAt blockF
  generalize hb : chooseF (fun s => begunF l s (rs.length + 1) * wayN l t (rs.length + 1 - s)) (groupsF l t (rs.length + 1)) here = b at *
  obtain ⟨z, h'⟩ := b
  dsimp only at c1 c2 hm ⊢
  have hA : 0 < wayN l t (rs.length + 1 - z) := by
    rcases Nat.eq_zero_or_pos (wayN l t (rs.length + 1 - z)) with e | e
    · rw [e, Nat.mul_zero] at c2
      omega
    · exact e
  have hmi : h' / wayN l t (rs.length + 1 - z) < begunF l z (rs.length + 1) := Nat.div_lt_of_lt_mul (by rw [Nat.mul_comm]; exact c2)
  have hpn : h' / wayN l t (rs.length + 1 - z) / weavesF l z < binom rs.length (z - 1) := Nat.div_lt_of_lt_mul (by
    unfold begunF at hmi
    rw [Nat.mul_comm] at hmi
    exact hmi)
  generalize hpk : pickF rs (z - 1) (h' / wayN l t (rs.length + 1 - z) / weavesF l z) = pk
  have hps : pk.1.length = z - 1 := by rw [← hpk]; exact pick_size _ _ _ hpn
  have hpp : (pk.1 ++ pk.2).Perm rs := by rw [← hpk]; exact pick_perm _ _ _
  generalize hwe : h' / wayN l t (rs.length + 1 - z) % weavesF l z = we
  have hop := order_perm pk.1.length pk.1 (we / l ^ (z - 1)) rfl
  generalize orderF pk.1.length pk.1 (we / l ^ (z - 1)) = ord at hop
  have hol := hop.length_eq
  have hpl := hpp.length_eq
  rw [List.length_append] at hpl
  refine ⟨c1, ?_, ?_, ?_, ?_, ?_, ?_⟩ <;> dsimp only
  · rw [List.length_cons, turn_length, hol, hps]
    omega
  · have e : pk.2.length = rs.length + 1 - z := by omega
    rw [e]
    exact Nat.mod_lt _ hA
  · intro r hr
    rcases List.mem_cons.mp hr with rfl | hr
    · exact ⟨r, List.mem_cons_self .., 0, by simp⟩
    · obtain ⟨r', a, k, _, e⟩ := turn_mem hr
      exact ⟨r', List.mem_cons_of_mem _ (hpp.mem_iff.mp (List.mem_append_left _ (hop.mem_iff.mp a))), k, e⟩
  · exact fun r hr => hpp.mem_iff.mp (List.mem_append_right _ hr)
  · rw [List.flatten_cons, List.flatten_cons, List.append_assoc]
    refine List.Perm.append_left r0 ?_
    refine ((turn_flat l ord _).append_right _).trans ?_
    rw [← List.flatten_append]
    exact ((hop.append_right pk.2).trans hpp).flatten
  · omega
theorem cyc_wv {σ : List Nat} {l t : Nat} {rs : List (List Nat)} (hl : 0 < l) (hp : 0 < rs.length) (hg : Nat.gcd t (l * rs.length) = rs.length) (hc : ∀ r ∈ rs, Cyc σ l r) (hn : rs.flatten.Nodup) : Wv rs l t := ⟨fun r hr => (hc r hr).1, hp, hl, hn, hg⟩
theorem wovenF_length (root : List Nat) (rs : List (List Nat)) (t : Nat) : (wovenF root rs t).length = root.length := setAll_length _ _
theorem Good.congr {σ root : List Nat} {t : Nat} {X Y : Nat → Prop} (h : Good σ root t X) (e : ∀ x, Y x ↔ X x) : Good σ root t Y := fun x hx => ⟨(e _).mpr (h x ((e x).mp hx)).1, (h x ((e x).mp hx)).2⟩
theorem inner_good {σ : List Nat} {l t : Nat} (hl : 0 < l) : ∀ (k : Nat) (left : List (List Nat)) (here : Nat) (root : List Nat) (X : Nat → Prop), left.length ≤ k → here < wayN l t left.length → (∀ r ∈ left, Cyc σ l r) → left.flatten.Nodup → (∀ x ∈ left.flatten, x < root.length) → Good σ root t X → (∀ x, X x → x ∉ left.flatten) →
    (innerF l t k left here root).length = root.length ∧ Good σ (innerF l t k left here root) t (fun x => X x ∨ x ∈ left.flatten)
  | 0, left, here, root, X, h1, _, _, _, _, hX, _ => by
    have : left = [] := List.length_eq_zero_iff.mp (by omega)
    subst this
    exact ⟨rfl, hX.congr fun x => by simp⟩
  | k + 1, [], here, root, X, _, _, _, _, _, hX, _ => ⟨rfl, hX.congr fun x => by simp⟩
  | k + 1, r0 :: rs, here, root, X, h1, h2, hc, hn, hlt, hX, hd => by
    have T := turn_ok hl (hc r0 (List.mem_cons_self ..)).1 h2
    simp only [innerF]
    generalize turnAt l t r0 rs here = u at T
    have hgm := mem_groups.mp T.grp
    have hnp : (u.some.flatten ++ u.rest.flatten).Nodup := T.perm.nodup_iff.mpr hn
    rw [List.nodup_append] at hnp
    obtain ⟨n1, n2, n3⟩ := hnp
    have hmem : ∀ x, x ∈ (r0 :: rs).flatten ↔ x ∈ u.some.flatten ∨ x ∈ u.rest.flatten := fun x => by
      rw [← T.perm.mem_iff, List.mem_append]
    have hcs : ∀ r ∈ u.some, Cyc σ l r := fun r hr => by
      obtain ⟨r', a, j, rfl⟩ := T.some r hr
      exact rot_cyc (hc r' a) (Nat.mod_lt _ hl)
    have hW : Wv u.some l t := cyc_wv hl (by rw [T.size]; omega) (by rw [T.size]; exact hgm.2.2) hcs n1
    have hg := weave_good hW (fun x hx => hlt x ((hmem x).mpr (.inl hx))) hcs hX fun x hx hh => hd x hx ((hmem x).mpr (.inl hh))
    have hless := T.less
    obtain ⟨a, b⟩ := inner_good hl k u.rest u.here (wovenF root u.some t) _ (by rw [List.length_cons] at h1; omega) T.here (fun r hr => hc r (List.mem_cons_of_mem _ (T.rest r hr))) n2 (fun x hx => by
      rw [wovenF_length]
      exact hlt x ((hmem x).mpr (.inr hx))) hg (fun x hx hh => by
      rcases hx with hx | hx
      · exact hd x hx ((hmem x).mpr (.inr hh))
      · exact n3 x hx x hh rfl)
    refine ⟨by rw [a, wovenF_length], b.congr fun x => ?_⟩
    rw [hmem, or_assoc]
theorem ofLen_flat {σ : List Nat} (h : IsP σ) (l : Nat) : (ofLen σ l).flatten.Nodup := by
  rw [List.nodup_iff_pairwise_ne, List.pairwise_flatten]
  refine ⟨fun r hr => ?_, ?_⟩
  · obtain ⟨s, _, _, rfl⟩ := (mem_rings h).mp (mem_ofLen.mp hr).1
    exact List.nodup_iff_pairwise_ne.mp (orb_nodup h s)
  · refine (ofLen_heads l).imp_of_mem ?_
    intro a b ha hb hab x hx y hy e
    subst e
    obtain ⟨s, _, m1, rfl⟩ := (mem_rings h).mp (mem_ofLen.mp ha).1
    obtain ⟨s', _, m2, rfl⟩ := (mem_rings h).mp (mem_ofLen.mp hb).1
    have := min_uniq h m1 m2 (orb_trans h hx (orb_symm h hy))
    subst this
    omega
theorem ofLen_cyc {σ : List Nat} (h : IsP σ) {l : Nat} {r : List Nat} (hr : r ∈ ofLen σ l) : Cyc σ l r := by
  obtain ⟨a, b⟩ := mem_ofLen.mp hr
  obtain ⟨s, _, _, rfl⟩ := (mem_rings h).mp a
  rw [orb_length] at b
  rw [← b]
  exact orb_cyc h s
theorem ofLen_lt {σ : List Nat} (h : IsP σ) {l x : Nat} (hx : x ∈ (ofLen σ l).flatten) : x < σ.length ∧ per σ x = l := by
  obtain ⟨r, hr, hx⟩ := List.mem_flatten.mp hx
  obtain ⟨a, b⟩ := mem_ofLen.mp hr
  obtain ⟨s, hs, _, rfl⟩ := (mem_rings h).mp a
  refine ⟨orb_lt h hs hx, ?_⟩
  obtain ⟨k, rfl⟩ := (mem_orb h).mp hx
  rw [h.per_it, ← b, orb_length]
theorem outer_good {σ : List Nat} {t : Nat} (h : IsP σ) : ∀ (ls : List Nat) (n : Nat) (root : List Nat) (X : Nat → Prop), ls.Nodup → (∀ l ∈ ls, 0 < l ∧ 0 < wayN l t (ofLen σ l).length) → root.length = σ.length → Good σ root t X → (∀ x, X x → ∀ l ∈ ls, x ∉ (ofLen σ l).flatten) →
    (outerF t (ls.map fun l : Nat => ((l : Int), ofLen σ l)) n root).length = σ.length ∧ Good σ (outerF t (ls.map fun l : Nat => ((l : Int), ofLen σ l)) n root) t (fun x => X x ∨ ∃ l ∈ ls, x ∈ (ofLen σ l).flatten)
  | [], n, root, X, _, _, hl, hX, _ => ⟨hl, hX.congr fun x => by simp⟩
  | l :: ls, n, root, X, hn, hw, hl, hX, hd => by
    obtain ⟨w1, w2⟩ := hw l (List.mem_cons_self ..)
    obtain ⟨n1, n2⟩ := List.nodup_cons.mp hn
    simp only [List.map_cons, outerF, Int.toNat_natCast]
    obtain ⟨a, b⟩ := inner_good (σ := σ) (t := t) w1 (ofLen σ l).length (ofLen σ l) (n % wayN l t (ofLen σ l).length) root X (Nat.le_refl _) (Nat.mod_lt _ w2) (fun r hr => ofLen_cyc h hr) (ofLen_flat h l) (fun x hx => by
      rw [hl]
      exact (ofLen_lt h hx).1) hX fun x hx => hd x hx l (List.mem_cons_self ..)
    obtain ⟨c, d⟩ := outer_good h ls (n / wayN l t (ofLen σ l).length) _ _ n2 (fun l hl => hw l (List.mem_cons_of_mem _ hl)) (a.trans hl) b fun x hx l' hl' hh => by
      rcases hx with hx | hx
      · exact hd x hx l' (List.mem_cons_of_mem _ hl') hh
      · have e1 := (ofLen_lt h hx).2
        have e2 := (ofLen_lt h hh).2
        rw [e1] at e2
        subst e2
        exact n1 hl'
    refine ⟨c, d.congr fun x => ?_⟩
    rw [or_assoc]
    refine or_congr Iff.rfl ?_
    constructor
    · rintro ⟨l', h1, h2⟩
      rcases List.mem_cons.mp h1 with rfl | h1
      · exact .inl h2
      · exact .inr ⟨l', h1, h2⟩
    · rintro (h1 | ⟨l', h1, h2⟩)
      · exact ⟨l, List.mem_cons_self .., h1⟩
      · exact ⟨l', List.mem_cons_of_mem _ h1, h2⟩
theorem ap_inj_P {ρ : List Nat} (hl : ∀ x, x < ρ.length → ap ρ x < ρ.length) (hi : ∀ x y, x < ρ.length → y < ρ.length → ap ρ x = ap ρ y → x = y) : IsP ρ := by
  refine isP_of (fun x hx => ?_) (nodup_of_at fun i j x a b => ?_)
  · obtain ⟨k, hk⟩ := List.getElem?_of_mem hx
    have := hl k (List.getElem?_eq_some_iff.mp hk).1
    rwa [ap_of hk] at this
  · exact hi i j (List.getElem?_eq_some_iff.mp a).1 (List.getElem?_eq_some_iff.mp b).1 (by rw [ap_of a, ap_of b])
theorem it_congr_ap {ρ : List Nat} {x y : Nat} (e : ap ρ x = ap ρ y) {t : Nat} (ht : 0 < t) : it ρ t x = it ρ t y := by
  obtain ⟨k, rfl⟩ : ∃ k, t = k + 1 := ⟨t - 1, by omega⟩
  rw [it_succ', it_succ', e]
/-- R done t times is σ -/
def RootOf (σ : List Nat) (t : Nat) (R : List Nat) : Prop := IsP R ∧ R.length = σ.length ∧ pwL R (t : Int) = σ
theorem root_of_good {σ R : List Nat} {t : Nat} (h : IsP σ) (ht : 0 < t) (hl : R.length = σ.length) (hc : ∀ x, x < σ.length → ap R x < σ.length) (hg : ∀ x, x < σ.length → it R t x = ap σ x) : RootOf σ t R := by
  have hP : IsP R := ap_inj_P (fun x hx => by rw [hl] at hx ⊢; exact hc x hx) fun x y hx hy e => by
    rw [hl] at hx hy
    have := it_congr_ap e ht
    rw [hg x hx, hg y hy] at this
    exact h.ap_inj this
  refine ⟨hP, hl, ?_⟩
  refine List.ext_getElem? fun i => ?_
  by_cases hi : i < σ.length
  · rw [pwL_get _ (by omega), pw_nat hP, hg i hi, ap_lt hi, List.getElem?_eq_getElem hi]
  · rw [List.getElem?_eq_none (by rw [pwL_length]; omega), List.getElem?_eq_none (by omega)]
theorem outer_root {σ : List Nat} {t n : Nat} (h : IsP σ) (hz : σ.length ≤ 60) (ht : 0 < t) (hw : ∀ l ∈ lens σ, 0 < wayN l t (ofLen σ l).length) : RootOf σ t (outerF t (byLen σ) n (List.replicate σ.length 0)) := by
  obtain ⟨a, b⟩ := outer_good (t := t) h (lens σ) n (List.replicate σ.length 0) (fun _ => False) (lens_lt.imp fun h => by omega) (fun l hl => ⟨(lens_lt64 h hz hl).1, hw l hl⟩) (by simp) (fun x hx => hx.elim) fun x hx => hx.elim
  have hX : ∀ x, (False ∨ ∃ l ∈ lens σ, x ∈ (ofLen σ l).flatten) ↔ x < σ.length := fun x => by
    constructor
    · rintro (h1 | ⟨l, _, h1⟩)
      · exact h1.elim
      · exact (ofLen_lt h h1).1
    · intro hx
      obtain ⟨r, hr, hxr⟩ := in_ring h hx
      exact .inr ⟨r.length, (mem_lens h).mpr ⟨r, hr, rfl⟩, List.mem_flatten.mpr ⟨r, mem_ofLen.mpr ⟨hr, rfl⟩, hxr⟩⟩
  exact root_of_good h ht a (fun x hx => (hX _).mp (b x ((hX x).mpr hx)).1) fun x hx => (b x ((hX x).mpr hx)).2
end AO
set_option Elab.async false
set_option linter.all false
/-! AOMathN1: numbers of what was picked, ordered, turned. -/
namespace AO
/-- number_picked -/
def numP {α : Type} [BEq α] [LawfulBEq α] : List α → List α → Nat → Nat
  | [], _, _ => 0
  | x :: xs, fd, r => if x ∈ fd then numP xs fd (r - 1) else (if 0 < r then binom xs.length (r - 1) else 0) + numP xs fd r
theorem pick_sub1 {α : Type} : ∀ (xs : List α) (r n : Nat), (pickF xs r n).1.Sublist xs
  | [], _, _ => List.Sublist.refl _
  | x :: xs, 0, n => (pick_sub1 xs 0 n).cons x
  | x :: xs, r + 1, n => by
    simp only [pickF]
    split
    · exact (pick_sub1 xs r n).cons_cons x
    · exact (pick_sub1 xs (r + 1) _).cons x
theorem pick_sub2 {α : Type} : ∀ (xs : List α) (r n : Nat), (pickF xs r n).2.Sublist xs
  | [], _, _ => List.Sublist.refl _
  | x :: xs, 0, n => (pick_sub2 xs 0 n).cons_cons x
  | x :: xs, r + 1, n => by
    simp only [pickF]
    split
    · exact (pick_sub2 xs r n).cons x
    · exact (pick_sub2 xs (r + 1) _).cons_cons x
theorem pick_zero {α : Type} : ∀ (xs : List α) (n : Nat), pickF xs 0 n = ([], xs)
  | [], _ => rfl
  | x :: xs, n => by
    simp only [pickF]
    rw [pick_zero xs n]
theorem numP_congr {α : Type} [BEq α] [LawfulBEq α] : ∀ (xs fd fd' : List α) (r : Nat), (∀ x ∈ xs, x ∈ fd ↔ x ∈ fd') → numP xs fd r = numP xs fd' r
  | [], _, _, _, _ => rfl
  | x :: xs, fd, fd', r, h => by
    have h1 := h x (List.mem_cons_self ..)
    have ih : ∀ r, numP xs fd r = numP xs fd' r := fun r => numP_congr xs fd fd' r fun y hy => h y (List.mem_cons_of_mem _ hy)
    simp only [numP]
    by_cases e : x ∈ fd
    · rw [if_pos e, if_pos (h1.mp e), ih]
    · rw [if_neg e, if_neg fun z => e (h1.mpr z), ih]
theorem numP_zero {α : Type} [BEq α] [LawfulBEq α] : ∀ (xs : List α), numP xs [] 0 = 0
  | [] => rfl
  | x :: xs => by
    simp [numP, numP_zero xs]
theorem numP_pick {α : Type} [BEq α] [LawfulBEq α] : ∀ (xs : List α) (r n : Nat), xs.Nodup → n < binom xs.length r → numP xs (pickF xs r n).1 r = n
  | [], 0, n, _, h => by
    have : n < 1 := h
    have : n = 0 := by omega
    rw [this]
    rfl
  | [], r + 1, n, _, h => by
    have : binom 0 (r + 1) = 0 := rfl
    rw [show ([] : List α).length = 0 from rfl, this] at h
    omega
  | x :: xs, 0, n, _, h => by
    rw [binom_zero] at h
    have : n = 0 := by omega
    subst this
    rw [pick_zero]
    exact numP_zero _
  | x :: xs, r + 1, n, hn, h => by
    obtain ⟨n1, n2⟩ := List.nodup_cons.mp hn
    have h : n < binom xs.length r + binom xs.length (r + 1) := h
    simp only [pickF]
    split
    · rename_i hlt
      simp only [numP]
      rw [if_pos (List.mem_cons_self ..), Nat.add_sub_cancel, numP_congr xs _ (pickF xs r n).1 r fun y hy => ?_, numP_pick xs r n n2 hlt]
      rw [List.mem_cons]
      refine ⟨fun z => ?_, .inr⟩
      rcases z with rfl | z
      · exact absurd hy n1
      · exact z
    · rename_i hlt
      have hni : x ∉ (pickF xs (r + 1) (n - binom xs.length r)).1 := fun z => n1 ((pick_sub1 _ _ _).subset z)
      simp only [numP]
      rw [if_neg hni, if_pos (Nat.succ_pos r), Nat.add_sub_cancel, numP_pick xs (r + 1) _ n2 (by omega)]
      omega
theorem filter_sub1 {α : Type} [BEq α] [LawfulBEq α] : ∀ (xs ys : List α), xs.Nodup → ys.Sublist xs → xs.filter (fun x => decide (x ∈ ys)) = ys
  | [], ys, _, h => by
    rw [List.sublist_nil.mp h]
    rfl
  | x :: xs, ys, hn, h => by
    obtain ⟨n1, n2⟩ := List.nodup_cons.mp hn
    cases h with
    | cons _ h =>
      rw [List.filter_cons_of_neg (by simpa using fun z => n1 (h.subset z))]
      exact filter_sub1 xs ys n2 h
    | cons_cons _ h =>
      rename_i zs
      rw [List.filter_cons_of_pos (by simp)]
      congr 1
      rw [← filter_sub1 xs zs n2 h]
      refine List.filter_congr fun y hy => ?_
      have hyx : y ≠ x := fun e => n1 (e ▸ hy)
      rw [filter_sub1 xs zs n2 h]
      simp [List.mem_cons, hyx]
theorem pick_filter1 {α : Type} [BEq α] [LawfulBEq α] {xs : List α} (h : xs.Nodup) (r n : Nat) : xs.filter (fun x => decide (x ∈ (pickF xs r n).1)) = (pickF xs r n).1 := filter_sub1 _ _ h (pick_sub1 _ _ _)
theorem pick_filter2 {α : Type} [BEq α] [LawfulBEq α] {xs : List α} (h : xs.Nodup) (r n : Nat) : xs.filter (fun x => !decide (x ∈ (pickF xs r n).1)) = (pickF xs r n).2 := by
  have e := filter_sub1 xs _ h (pick_sub2 xs r n)
  refine Eq.trans (List.filter_congr fun y hy => ?_) e
  have hp := pick_perm xs r n
  have hnd : ((pickF xs r n).1 ++ (pickF xs r n).2).Nodup := hp.nodup_iff.mpr h
  have hm := hp.mem_iff.mpr hy
  rw [List.mem_append] at hm
  obtain ⟨_, _, hd⟩ := List.nodup_append.mp hnd
  by_cases e1 : y ∈ (pickF xs r n).1
  · have e2 : y ∉ (pickF xs r n).2 := fun z => hd y e1 y z rfl
    simp [e1, e2]
  · have e2 : y ∈ (pickF xs r n).2 := by
      rcases hm with hm | hm
      · exact absurd hm e1
      · exact hm
    simp [e1, e2]
/-- number_ordered -/
def numO {α : Type} [BEq α] [LawfulBEq α] : List α → List α → Nat → Nat
  | _, [], _ => 0
  | left, y :: ys, w => left.idxOf y * w + numO (left.erase y) ys (w * left.length)
theorem numO_order {α : Type} [BEq α] [LawfulBEq α] : ∀ (k : Nat) (left : List α) (n w : Nat), left.length = k → left.Nodup → n < fac k → numO left (orderF k left n) w = n * w
  | 0, left, n, w, h, _, hn => by
    have : n < 1 := hn
    have : n = 0 := by omega
    rw [this, Nat.zero_mul]
    rfl
  | k + 1, left, n, w, h, hd, hn => by
    have hm : n % left.length < left.length := Nat.mod_lt _ (by omega)
    simp only [orderF, List.getElem?_eq_getElem hm, numO]
    have hi : left.idxOf left[n % left.length] = n % left.length := hd.idxOf_getElem _ hm
    have he : left.erase left[n % left.length] = left.eraseIdx (n % left.length) := by
      rw [List.erase_eq_eraseIdx_of_idxOf hi]
    have hlt : n / left.length < fac k := by
      rw [h]
      exact Nat.div_lt_of_lt_mul hn
    rw [hi, he, numO_order k _ _ _ (by rw [List.length_eraseIdx_of_lt hm]; omega) (hd.eraseIdx _) hlt]
    rw [Nat.mul_comm w left.length, ← Nat.mul_assoc, ← Nat.add_mul]
    congr 1
    rw [Nat.mul_comm (n / left.length)]
    exact Nat.mod_add_div n left.length
/-- digits -/
def digits (l : Nat) : Nat → Nat → List Nat
  | 0, _ => []
  | k + 1, T => T % l :: digits l k (T / l)
theorem digits_length (l : Nat) : ∀ (k T : Nat), (digits l k T).length = k
  | 0, _ => rfl
  | k + 1, T => by
    simp [digits, digits_length l k]
theorem digits_lt {l : Nat} (hl : 0 < l) : ∀ (k T : Nat), ∀ d ∈ digits l k T, d < l
  | 0, _, d, h => by cases h
  | k + 1, T, d, h => by
    rcases List.mem_cons.mp h with rfl | h
    · exact Nat.mod_lt _ hl
    · exact digits_lt hl k _ d h
/-- the sum of digits times powers, from power a on -/
def sumD (l : Nat) : List Nat → Nat → Nat
  | [], _ => 0
  | d :: ds, a => d * l ^ a + sumD l ds (a + 1)
theorem sumD_digits (l : Nat) : ∀ (k T a : Nat), T < l ^ k → sumD l (digits l k T) a = T * l ^ a
  | 0, T, a, h => by
    have : T = 0 := by simp at h; omega
    rw [this, Nat.zero_mul]
    rfl
  | k + 1, T, a, h => by
    simp only [digits, sumD]
    have hlt : T / l < l ^ k := Nat.div_lt_of_lt_mul (by rw [Nat.pow_succ, Nat.mul_comm] at h; exact h)
    rw [sumD_digits l k _ _ hlt, Nat.pow_succ, Nat.mul_comm (l ^ a) l, ← Nat.mul_assoc, ← Nat.add_mul]
    congr 1
    rw [Nat.mul_comm (T / l)]
    exact Nat.mod_add_div T l
theorem turnF_zip (l : Nat) : ∀ (rs : List (List Nat)) (T : Nat), turnF l rs T = (rs.zip (digits l rs.length T)).map fun p => p.1.drop p.2 ++ p.1.take p.2
  | [], _ => rfl
  | r :: rs, T => by
    simp only [turnF, List.length_cons, digits, List.zip_cons_cons, List.map_cons]
    rw [turnF_zip l rs]
/-- what was chosen: the first blocks' sum and the rest -/
theorem choose_sum (bl : Nat → Nat) : ∀ {gs : List Nat} {h : Nat}, gs.Pairwise (· < ·) → h < (gs.map bl).sum → ((gs.filter fun s => decide (s < (chooseF bl gs h).1)).map bl).sum + (chooseF bl gs h).2 = h
  | [], h, _, hh => by simp at hh
  | s :: gs, h, hp, hh => by
    obtain ⟨p1, p2⟩ := List.pairwise_cons.mp hp
    simp only [chooseF]
    split
    · rename_i q
      dsimp only
      rw [List.filter_eq_nil_iff.mpr fun x hx => ?_]
      · simp
      · rcases List.mem_cons.mp hx with rfl | hx
        · simp
        · have := p1 x hx
          simp
          omega
    · rename_i q
      rw [List.map_cons, List.sum_cons] at hh
      have ih := choose_sum bl (gs := gs) (h := h - bl s) p2 (by omega)
      have hm := (choose_spec bl (gs := gs) (h := h - bl s) (by omega)).1
      have := p1 _ hm
      rw [List.filter_cons_of_pos (by simpa using this), List.map_cons, List.sum_cons]
      omega
theorem groups_pw (l t m : Nat) : (groupsF l t m).Pairwise (· < ·) := List.Pairwise.filter _ List.pairwise_lt_range'
end AO
set_option Elab.async false
set_option linter.all false
/-! AOMathN2: the rings of a root told: each woven ring, in its turn. -/
namespace AO
theorem inner_out {l t : Nat} (hl : 0 < l) : ∀ (k : Nat) (left : List (List Nat)) (here : Nat) (root : List Nat), left.length ≤ k → here < wayN l t left.length → (∀ r ∈ left, r.length = l) → left.flatten.Nodup → ∀ x, x ∉ left.flatten → ap (innerF l t k left here root) x = ap root x
  | 0, left, here, root, h1, _, _, _, x, _ => by
    have : left = [] := List.length_eq_zero_iff.mp (by omega)
    subst this
    rfl
  | k + 1, [], here, root, _, _, _, _, x, _ => rfl
  | k + 1, r0 :: rs, here, root, h1, h2, hc, hn, x, hx => by
    have T := turn_ok hl (hc r0 (List.mem_cons_self ..)) h2
    simp only [innerF]
    generalize turnAt l t r0 rs here = u at T
    have hgm := mem_groups.mp T.grp
    have hnp : (u.some.flatten ++ u.rest.flatten).Nodup := T.perm.nodup_iff.mpr hn
    rw [List.nodup_append] at hnp
    obtain ⟨n1, n2, n3⟩ := hnp
    have hmem : ∀ x, x ∈ (r0 :: rs).flatten ↔ x ∈ u.some.flatten ∨ x ∈ u.rest.flatten := fun x => by
      rw [← T.perm.mem_iff, List.mem_append]
    have hls : ∀ r ∈ u.some, r.length = l := fun r hr => by
      obtain ⟨r', a, j, rfl⟩ := T.some r hr
      rw [rot_len]
      exact hc r' a
    have hW : Wv u.some l t := ⟨hls, by rw [T.size]; omega, hl, n1, by rw [T.size]; exact hgm.2.2⟩
    have hless := T.less
    rw [inner_out hl k u.rest u.here (wovenF root u.some t) (by rw [List.length_cons] at h1; omega) T.here (fun r hr => hc r (List.mem_cons_of_mem _ (T.rest r hr))) n2 x fun z => hx ((hmem x).mpr (.inr z))]
    exact hW.woven_out fun z => hx ((hmem x).mpr (.inl z))
/-- each turn's whole is a ring of R -/
def Stage (R : List Nat) (l t : Nat) : Nat → List (List Nat) → Nat → Prop
  | 0, _, _ => True
  | _ + 1, [], _ => True
  | k + 1, r0 :: rs, here => Cyc R ((turnAt l t r0 rs here).some.length * l) (wholeF (turnAt l t r0 rs here).some t) ∧ Stage R l t k (turnAt l t r0 rs here).rest (turnAt l t r0 rs here).here
theorem stage_congr {R R' : List Nat} {l t : Nat} (hl : 0 < l) : ∀ (k : Nat) (left : List (List Nat)) (here : Nat), left.length ≤ k → here < wayN l t left.length → (∀ r ∈ left, r.length = l) → left.flatten.Nodup → (∀ x ∈ left.flatten, ap R' x = ap R x) → Stage R l t k left here → Stage R' l t k left here
  | 0, _, _, _, _, _, _, _, _ => trivial
  | k + 1, [], _, _, _, _, _, _, _ => trivial
  | k + 1, r0 :: rs, here, h1, h2, hc, hn, he, hs => by
    have T := turn_ok hl (hc r0 (List.mem_cons_self ..)) h2
    simp only [Stage] at hs ⊢
    generalize turnAt l t r0 rs here = u at T hs
    have hgm := mem_groups.mp T.grp
    have hnp : (u.some.flatten ++ u.rest.flatten).Nodup := T.perm.nodup_iff.mpr hn
    rw [List.nodup_append] at hnp
    obtain ⟨n1, n2, n3⟩ := hnp
    have hmem : ∀ x, x ∈ (r0 :: rs).flatten ↔ x ∈ u.some.flatten ∨ x ∈ u.rest.flatten := fun x => by
      rw [← T.perm.mem_iff, List.mem_append]
    have hls : ∀ r ∈ u.some, r.length = l := fun r hr => by
      obtain ⟨r', a, j, rfl⟩ := T.some r hr
      rw [rot_len]
      exact hc r' a
    have hW : Wv u.some l t := ⟨hls, by rw [T.size]; omega, hl, n1, by rw [T.size]; exact hgm.2.2⟩
    have hless := T.less
    refine ⟨⟨hs.1.1, fun j x hx => ?_⟩, stage_congr hl k u.rest u.here (by rw [List.length_cons] at h1; omega) T.here (fun r hr => hc r (List.mem_cons_of_mem _ (T.rest r hr))) n2 (fun x hx => he x ((hmem x).mpr (.inr hx))) hs.2⟩
    rw [he x ((hmem x).mpr (.inl (hW.whole_mem.mp (List.mem_of_getElem? hx))))]
    exact hs.1.2 j x hx
theorem inner_stage {l t : Nat} (hl : 0 < l) : ∀ (k : Nat) (left : List (List Nat)) (here : Nat) (root : List Nat), left.length ≤ k → here < wayN l t left.length → (∀ r ∈ left, r.length = l) → left.flatten.Nodup → (∀ x ∈ left.flatten, x < root.length) → Stage (innerF l t k left here root) l t k left here
  | 0, _, _, _, _, _, _, _, _ => trivial
  | k + 1, [], _, _, _, _, _, _, _ => trivial
  | k + 1, r0 :: rs, here, root, h1, h2, hc, hn, hlt => by
    have T := turn_ok hl (hc r0 (List.mem_cons_self ..)) h2
    simp only [innerF, Stage]
    generalize turnAt l t r0 rs here = u at T
    have hgm := mem_groups.mp T.grp
    have hnp : (u.some.flatten ++ u.rest.flatten).Nodup := T.perm.nodup_iff.mpr hn
    rw [List.nodup_append] at hnp
    obtain ⟨n1, n2, n3⟩ := hnp
    have hmem : ∀ x, x ∈ (r0 :: rs).flatten ↔ x ∈ u.some.flatten ∨ x ∈ u.rest.flatten := fun x => by
      rw [← T.perm.mem_iff, List.mem_append]
    have hls : ∀ r ∈ u.some, r.length = l := fun r hr => by
      obtain ⟨r', a, j, rfl⟩ := T.some r hr
      rw [rot_len]
      exact hc r' a
    have hW : Wv u.some l t := ⟨hls, by rw [T.size]; omega, hl, n1, by rw [T.size]; exact hgm.2.2⟩
    have hless := T.less
    have hk : u.rest.length ≤ k := by rw [List.length_cons] at h1; omega
    have hcr : ∀ r ∈ u.rest, r.length = l := fun r hr => hc r (List.mem_cons_of_mem _ (T.rest r hr))
    refine ⟨⟨hW.wlen, fun j x hx => ?_⟩, inner_stage hl k u.rest u.here (wovenF root u.some t) hk T.here hcr n2 fun x hx => by
      rw [wovenF_length]
      exact hlt x ((hmem x).mpr (.inr hx))⟩
    have hxs := hW.whole_mem.mp (List.mem_of_getElem? hx)
    rw [inner_out hl k u.rest u.here (wovenF root u.some t) hk T.here hcr n2 x fun z => n3 x hxs x z rfl]
    exact hW.woven_in (fun y hy => hlt y ((hmem y).mpr (.inl hy))) hx
/-- the same for each length in its turn -/
def OStage (R σ : List Nat) (t : Nat) : List Nat → Nat → Prop
  | [], _ => True
  | l :: ls, n => Stage R l t (ofLen σ l).length (ofLen σ l) (n % wayN l t (ofLen σ l).length) ∧ OStage R σ t ls (n / wayN l t (ofLen σ l).length)
abbrev lsP (σ : List Nat) (ls : List Nat) : List (Int × List (List Nat)) := ls.map fun l : Nat => ((l : Int), ofLen σ l)
theorem outer_out {σ : List Nat} {t : Nat} (h : IsP σ) : ∀ (ls : List Nat) (n : Nat) (root : List Nat), (∀ l ∈ ls, 0 < l ∧ 0 < wayN l t (ofLen σ l).length) → ∀ x, (∀ l ∈ ls, x ∉ (ofLen σ l).flatten) → ap (outerF t (lsP σ ls) n root) x = ap root x
  | [], _, _, _, _, _ => rfl
  | l :: ls, n, root, hw, x, hx => by
    obtain ⟨w1, w2⟩ := hw l (List.mem_cons_self ..)
    simp only [lsP, List.map_cons, outerF, Int.toNat_natCast]
    rw [outer_out h ls _ _ (fun l hl => hw l (List.mem_cons_of_mem _ hl)) x fun l hl => hx l (List.mem_cons_of_mem _ hl)]
    exact inner_out w1 _ _ _ _ (Nat.le_refl _) (Nat.mod_lt _ w2) (fun r hr => (ofLen_cyc h hr).1) (ofLen_flat h l) x (hx l (List.mem_cons_self ..))
theorem outer_len {σ : List Nat} {t : Nat} : ∀ (ps : List (Int × List (List Nat))) (n : Nat) (root : List Nat), (outerF t ps n root).length = root.length := by
  have inn : ∀ (l k : Nat) (left : List (List Nat)) (here : Nat) (root : List Nat), (innerF l t k left here root).length = root.length := by
    intro l k
    induction k with
    | zero => intro left here root; rfl
    | succ k ih =>
      intro left here root
      cases left with
      | nil => rfl
      | cons r0 rs =>
        simp only [innerF]
        rw [ih, wovenF_length]
  intro ps
  induction ps with
  | nil => intro n root; rfl
  | cons p ps ih =>
    intro n root
    simp only [outerF]
    rw [ih, inn]
theorem outer_stage {σ : List Nat} {t : Nat} (h : IsP σ) : ∀ (ls : List Nat) (n : Nat) (root : List Nat), ls.Nodup → (∀ l ∈ ls, 0 < l ∧ 0 < wayN l t (ofLen σ l).length) → root.length = σ.length → OStage (outerF t (lsP σ ls) n root) σ t ls n
  | [], _, _, _, _, _ => trivial
  | l :: ls, n, root, hn, hw, hlen => by
    obtain ⟨w1, w2⟩ := hw l (List.mem_cons_self ..)
    obtain ⟨n1, n2⟩ := List.nodup_cons.mp hn
    have hrl : ∀ r ∈ ofLen σ l, r.length = l := fun r hr => (ofLen_cyc h hr).1
    have hst := inner_stage (t := t) w1 (ofLen σ l).length (ofLen σ l) (n % wayN l t (ofLen σ l).length) root (Nat.le_refl _) (Nat.mod_lt _ w2) hrl (ofLen_flat h l) fun x hx => by
      rw [hlen]
      exact (ofLen_lt h hx).1
    have hil : (innerF l t (ofLen σ l).length (ofLen σ l) (n % wayN l t (ofLen σ l).length) root).length = root.length := by
      have := outer_len (σ := σ) (t := t) [((l : Int), ofLen σ l)] n root
      simpa only [outerF, Int.toNat_natCast] using this
    simp only [lsP, List.map_cons, outerF, OStage, Int.toNat_natCast]
    refine ⟨stage_congr w1 _ _ _ (Nat.le_refl _) (Nat.mod_lt _ w2) hrl (ofLen_flat h l) (fun x hx => ?_) hst, outer_stage h ls _ _ n2 (fun l hl => hw l (List.mem_cons_of_mem _ hl)) (hil.trans hlen)⟩
    refine outer_out h ls _ _ (fun l hl => hw l (List.mem_cons_of_mem _ hl)) x fun l' hl' hh => ?_
    have e1 := (ofLen_lt h hx).2
    have e2 := (ofLen_lt h hh).2
    rw [e1] at e2
    subst e2
    exact n1 hl'
/-- a ring under R, each thing once: it is the ring of its first -/
theorem cyc_orb {R w : List Nat} (h : IsP R) (hn : w.Nodup) (hc : Cyc R w.length w) {x : Nat} (h0 : w[0]? = some x) : orb R x = w := by
  have hL : 0 < w.length := by
    have := (List.getElem?_eq_some_iff.mp h0).1
    omega
  have hit : ∀ k, w[k % w.length]? = some (it R k x) := by
    intro k
    induction k with
    | zero => rw [Nat.zero_mod, h0]; rfl
    | succ k ih =>
      have := hc.2 _ _ ih
      rw [Nat.mod_add_mod] at this
      exact this
  have hper : per R x = w.length := by
    have h1 : per R x ≤ w.length := h.per_min hL (by
      have := hit w.length
      rw [Nat.mod_self, h0] at this
      exact (Option.some.inj this).symm)
    have h2 := hit (per R x)
    rw [h.it_per] at h2
    by_cases e : per R x < w.length
    · rw [Nat.mod_eq_of_lt e] at h2
      have := at_inj hn h2 h0
      have := per_pos (σ := R) x
      omega
    · omega
  refine List.ext_getElem? fun k => ?_
  by_cases hk : k < w.length
  · rw [orb_get (by omega), ← hit k, Nat.mod_eq_of_lt hk]
  · rw [List.getElem?_eq_none (by rw [orb_length]; omega), List.getElem?_eq_none (by omega)]
/-- left rings in a number's turn: of one length, heads rising, each begun with its least -/
structure OkN (l : Nat) (left : List (List Nat)) : Prop where
  len : ∀ r ∈ left, r.length = l
  nd : left.flatten.Nodup
  pw : left.Pairwise fun r r' => r.getD 0 0 < r'.getD 0 0
  min : ∀ r ∈ left, ∀ x ∈ r, r.getD 0 0 ≤ x
theorem okN_of {σ : List Nat} (h : IsP σ) (l : Nat) : OkN l (ofLen σ l) := ⟨fun r hr => (mem_ofLen.mp hr).2, ofLen_flat h l, ofLen_heads l, fun r hr x hx => by
  obtain ⟨s, _, hm, rfl⟩ := (mem_rings h).mp (mem_ofLen.mp hr).1
  rw [orb_head]
  exact (isMin_iff h).mp hm x hx⟩
theorem OkN.sub {l : Nat} {left left' : List (List Nat)} (h : OkN l left) (hs : left'.Sublist left) : OkN l left' := ⟨fun r hr => h.len r (hs.subset hr), by
  have := h.nd
  rw [List.nodup_iff_pairwise_ne, List.pairwise_flatten] at this ⊢
  exact ⟨fun r hr => this.1 r (hs.subset hr), this.2.sublist hs⟩, h.pw.sublist hs, fun r hr => h.min r (hs.subset hr)⟩
theorem OkN.ndr {l : Nat} {left : List (List Nat)} (h : OkN l left) : left.Nodup := by
  rw [List.nodup_iff_pairwise_ne]
  exact h.pw.imp fun hlt e => by
    rw [e] at hlt
    omega
theorem OkN.least {l : Nat} {r0 : List Nat} {rs : List (List Nat)} (h : OkN l (r0 :: rs)) {x : Nat} (hx : x ∈ (r0 :: rs).flatten) : r0.getD 0 0 ≤ x := by
  obtain ⟨r, hr, hx⟩ := List.mem_flatten.mp hx
  have h1 := h.min r hr x hx
  rcases List.mem_cons.mp hr with rfl | hr
  · exact h1
  · have := (List.pairwise_cons.mp h.pw).1 r hr
    omega
/-- parted, of a ring begun with its least -/
def partedF (t : Nat) (r : List Nat) : List (List Nat) := (List.range (r.length / (r.length / Nat.gcd t r.length))).map fun b => (List.range (r.length / Nat.gcd t r.length)).map fun j => r.getD ((b + j * t) % r.length) 0
theorem parted_whole {rs : List (List Nat)} {l t : Nat} (h : Wv rs l t) : partedF t (wholeF rs t) = rs := by
  have hg : Nat.gcd t (rs.length * l) = rs.length := by
    rw [Nat.mul_comm]
    exact h.grp
  have hd : rs.length * l / rs.length = l := Nat.mul_div_cancel_left _ h.pos
  unfold partedF
  rw [h.wlen, hg, hd, Nat.mul_div_cancel _ h.lpos]
  refine List.ext_getElem? fun i => ?_
  by_cases hi : i < rs.length
  · rw [List.getElem?_map, List.getElem?_range hi, List.getElem?_eq_getElem hi]
    show some _ = some _
    congr 1
    have hr := List.getElem?_eq_getElem hi
    have hrl := h.len _ (List.getElem_mem hi)
    refine List.ext_getElem? fun j => ?_
    by_cases hj : j < l
    · have hj2 : j < (rs[i]).length := by omega
      have e := h.whole_at hr (List.getElem?_eq_getElem hj2)
      rw [List.getElem?_map, List.getElem?_range hj, List.getElem?_eq_getElem hj2]
      show some ((wholeF rs t).getD ((i + j * t) % (rs.length * l)) 0) = some _
      rw [List.getD_eq_getElem?_getD, e]
      rfl
    · rw [List.getElem?_eq_none (by simp; omega), List.getElem?_eq_none (by omega)]
  · rw [List.getElem?_eq_none (by simp; omega), List.getElem?_eq_none (by omega)]
/-- where the rings of a root are parted: by their least things -/
def homesF (R : List Nat) (t : Nat) : List (Int × List (List Nat)) := (rings R).map fun r => ((r.getD 0 0 : Nat), partedF t r)
theorem homes_look {R : List Nat} {t : Nat} (h : IsP R) {r : List Nat} (hr : r ∈ rings R) : lookL (homesF R t) ((r.getD 0 0 : Nat) : Int) = some (partedF t r) := by
  have hk : ((homesF R t).map (·.1)) = (rings R).map fun r => ((r.getD 0 0 : Nat) : Int) := by
    unfold homesF
    rw [List.map_map]
    rfl
  have hn : ((homesF R t).map (·.1)).Nodup := by
    rw [hk, List.nodup_iff_pairwise_ne, List.pairwise_map]
    exact rings_heads.imp fun hlt e => by omega
  have key : ∀ {xs : List (Int × List (List Nat))}, (xs.map (·.1)).Nodup → ∀ p ∈ xs, lookL xs p.1 = some p.2 := fun {xs} hn => by
    induction xs with
    | nil => intro p hp; cases hp
    | cons q l ih =>
      intro p hp
      rw [List.map_cons, List.nodup_cons] at hn
      rcases List.mem_cons.mp hp with rfl | hp
      · simp [lookL]
      · have hne : ¬ q.1 = p.1 := fun e => hn.1 (by rw [e]; exact List.mem_map.mpr ⟨p, hp, rfl⟩)
        have : lookL (q :: l) p.1 = lookL l p.1 := by simp [lookL, hne]
        rw [this]
        exact ih hn.2 p hp
  exact key hn (((r.getD 0 0 : Nat) : Int), partedF t r) (List.mem_map.mpr ⟨r, hr, rfl⟩)
/-- what homes tells in each turn -/
def Home (R : List Nat) (l t : Nat) : Nat → List (List Nat) → Nat → Prop
  | 0, _, _ => True
  | _ + 1, [], _ => True
  | k + 1, r0 :: rs, here => lookL (homesF R t) ((r0.getD 0 0 : Nat) : Int) = some (turnAt l t r0 rs here).some ∧ Home R l t k (turnAt l t r0 rs here).rest (turnAt l t r0 rs here).here
theorem turn_some (l t : Nat) (r0 : List Nat) (rs : List (List Nat)) (here : Nat) : ∃ tl, (turnAt l t r0 rs here).some = r0 :: tl := ⟨_, rfl⟩
theorem turn_rest (l t : Nat) (r0 : List Nat) (rs : List (List Nat)) (here : Nat) : (turnAt l t r0 rs here).rest.Sublist rs := pick_sub2 _ _ _
theorem stage_home {R : List Nat} {l t : Nat} (h : IsP R) (hl : 0 < l) : ∀ (k : Nat) (left : List (List Nat)) (here : Nat), left.length ≤ k → here < wayN l t left.length → OkN l left → (∀ x ∈ left.flatten, x < R.length) → Stage R l t k left here → Home R l t k left here
  | 0, _, _, _, _, _, _, _ => trivial
  | k + 1, [], _, _, _, _, _, _ => trivial
  | k + 1, r0 :: rs, here, h1, h2, hO, hlt, hs => by
    have T := turn_ok hl (hO.len r0 (List.mem_cons_self ..)) h2
    obtain ⟨tl, htl⟩ := turn_some l t r0 rs here
    have hsub := turn_rest l t r0 rs here
    simp only [Stage] at hs
    simp only [Home]
    generalize turnAt l t r0 rs here = u at T hs htl hsub
    have hgm := mem_groups.mp T.grp
    have hnp : (u.some.flatten ++ u.rest.flatten).Nodup := T.perm.nodup_iff.mpr hO.nd
    rw [List.nodup_append] at hnp
    obtain ⟨n1, n2, n3⟩ := hnp
    have hmem : ∀ x, x ∈ (r0 :: rs).flatten ↔ x ∈ u.some.flatten ∨ x ∈ u.rest.flatten := fun x => by
      rw [← T.perm.mem_iff, List.mem_append]
    have hls : ∀ r ∈ u.some, r.length = l := fun r hr => by
      obtain ⟨r', a, j, rfl⟩ := T.some r hr
      rw [rot_len]
      exact hO.len r' a
    have hW : Wv u.some l t := ⟨hls, by rw [T.size]; omega, hl, n1, by rw [T.size]; exact hgm.2.2⟩
    have hless := T.less
    refine ⟨?_, stage_home h hl k u.rest u.here (by rw [List.length_cons] at h1; omega) T.here (hO.sub (hsub.cons r0)) (fun x hx => hlt x ((hmem x).mpr (.inr hx))) hs.2⟩
    have hr0 : r0.length = l := hO.len r0 (List.mem_cons_self ..)
    have e0 : r0[0]? = some (r0.getD 0 0) := by
      rw [List.getD_eq_getElem?_getD, List.getElem?_eq_getElem (by omega)]
      rfl
    have hw0 : (wholeF u.some t)[0]? = some (r0.getD 0 0) := by
      have := hW.whole_at (i := 0) (j := 0) (by rw [htl]; rfl) e0
      rwa [Nat.zero_mul, Nat.add_zero, Nat.zero_mod] at this
    have ho := cyc_orb h hW.whole_nd (by rw [hW.wlen]; exact hs.1) hw0
    have hx0 : r0.getD 0 0 ∈ (r0 :: rs).flatten := by
      rw [List.mem_flatten]
      exact ⟨r0, List.mem_cons_self .., List.mem_of_getElem? e0⟩
    have hring : wholeF u.some t ∈ rings R := (mem_rings h).mpr ⟨r0.getD 0 0, hlt _ hx0, (isMin_iff h).mpr fun y hy => by
      rw [ho] at hy
      exact hO.least ((hmem y).mpr (.inl (hW.whole_mem.mp hy))), ho.symm⟩
    have := homes_look (t := t) h hring
    rw [parted_whole hW, List.getD_eq_getElem?_getD, hw0] at this
    exact this
end AO
set_option Elab.async false
set_option linter.all false
/-! AOMathN3: a turn's number, there and back. -/
namespace AO
def rotP (p : List Nat × Nat) : List Nat := p.1.drop p.2 ++ p.1.take p.2
def blkN (l t m : Nat) (s : Nat) : Nat := begunF l s m * wayN l t (m - s)
structure TurnNum (l t : Nat) (r0 : List Nat) (rs : List (List Nat)) (here : Nat) (T : Turn) (pk ord : List (List Nat)) (T0 : Nat) : Prop where
  sum : (((groupsF l t (rs.length + 1)).filter fun s => decide (s < T.size)).map (blkN l t (rs.length + 1))).sum + ((T.mine * weavesF l T.size + T.weave) * wayN l t (rs.length + 1 - T.size) + T.here) = here
  some : T.some = r0 :: (ord.zip (digits l (T.size - 1) T0)).map rotP
  perm : ord.Perm pk
  plen : pk.length = T.size - 1
  psub : pk.Sublist rs
  rest : rs.filter (fun x => !decide (x ∈ pk)) = T.rest
  nump : numP rs pk (T.size - 1) = T.mine
  numo : numO pk ord 1 * l ^ (T.size - 1) + T0 = T.weave
  t0 : T0 < l ^ (T.size - 1)
theorem turn_num {l t : Nat} (hl : 0 < l) {r0 : List Nat} {rs : List (List Nat)} {here : Nat} (hO : OkN l (r0 :: rs)) (h : here < wayN l t (rs.length + 1)) : ∃ pk ord T0, TurnNum l t r0 rs here (turnAt l t r0 rs here) pk ord T0 := by
  have hnd : rs.Nodup := (List.nodup_cons.mp hO.ndr).2
  rw [way_succ] at h
  have h' : here < ((groupsF l t (rs.length + 1)).map (blkN l t (rs.length + 1))).sum := h
  have hc := choose_spec (blkN l t (rs.length + 1)) h'
  have hcs := choose_sum (blkN l t (rs.length + 1)) (groups_pw l t (rs.length + 1)) h'
  obtain ⟨c1, c2⟩ := hc
  have hm := mem_groups.mp c1
  have hbl : blockF l t (rs.length + 1) here = chooseF (blkN l t (rs.length + 1)) (groupsF l t (rs.length + 1)) here := rfl
  unfold turnAt
  rw [hbl]
  generalize chooseF (blkN l t (rs.length + 1)) (groupsF l t (rs.length + 1)) here = b at *
  obtain ⟨z, h2⟩ := b
  dsimp only at c1 c2 hm hcs ⊢
  unfold blkN at c2
  have hA : 0 < wayN l t (rs.length + 1 - z) := by
    rcases Nat.eq_zero_or_pos (wayN l t (rs.length + 1 - z)) with e | e
    · rw [e, Nat.mul_zero] at c2
      omega
    · exact e
  have hW : 0 < weavesF l z := weaves_pos hl
  have hP : 0 < l ^ (z - 1) := Nat.pow_pos hl
  have hmi : h2 / wayN l t (rs.length + 1 - z) < begunF l z (rs.length + 1) := Nat.div_lt_of_lt_mul (by rw [Nat.mul_comm]; exact c2)
  have hpn : h2 / wayN l t (rs.length + 1 - z) / weavesF l z < binom rs.length (z - 1) := Nat.div_lt_of_lt_mul (by
    unfold begunF at hmi
    rw [Nat.mul_comm] at hmi
    exact hmi)
  have hpl := pick_size rs (z - 1) _ hpn
  refine ⟨(pickF rs (z - 1) (h2 / wayN l t (rs.length + 1 - z) / weavesF l z)).1, orderF (pickF rs (z - 1) (h2 / wayN l t (rs.length + 1 - z) / weavesF l z)).1.length (pickF rs (z - 1) (h2 / wayN l t (rs.length + 1 - z) / weavesF l z)).1 (h2 / wayN l t (rs.length + 1 - z) % weavesF l z / l ^ (z - 1)), h2 / wayN l t (rs.length + 1 - z) % weavesF l z % l ^ (z - 1), ?_, ?_, order_perm _ _ _ rfl, hpl, pick_sub1 _ _ _, pick_filter2 hnd _ _, numP_pick rs _ _ hnd hpn, ?_, Nat.mod_lt _ hP⟩
  · dsimp only
    have e1 := Nat.mod_add_div h2 (wayN l t (rs.length + 1 - z))
    have e2 := Nat.mod_add_div (h2 / wayN l t (rs.length + 1 - z)) (weavesF l z)
    have e3 : h2 / wayN l t (rs.length + 1 - z) / weavesF l z * weavesF l z + h2 / wayN l t (rs.length + 1 - z) % weavesF l z = h2 / wayN l t (rs.length + 1 - z) := by
      rw [Nat.mul_comm]
      omega
    rw [e3, Nat.mul_comm (h2 / _)]
    omega
  · dsimp only
    rw [turnF_zip, (order_perm _ _ _ rfl).length_eq, hpl]
    rfl
  · dsimp only
    have hwl : h2 / wayN l t (rs.length + 1 - z) % weavesF l z / l ^ (z - 1) < fac (z - 1) := Nat.div_lt_of_lt_mul (by
      have := Nat.mod_lt (h2 / wayN l t (rs.length + 1 - z)) hW
      unfold weavesF at this ⊢
      rw [Nat.mul_comm (l ^ (z - 1))]
      exact this)
    rw [numO_order _ _ _ 1 rfl (hnd.sublist (pick_sub1 _ _ _)) (by rw [hpl]; exact hwl), Nat.mul_one, Nat.mul_comm]
    have := Nat.mod_add_div (h2 / wayN l t (rs.length + 1 - z) % weavesF l z) (l ^ (z - 1))
    omega
section
variable {l : Nat} {r0 : List Nat} {rs pk : List (List Nat)}
theorem OkN.head_inj (h : OkN l (r0 :: rs)) {a b : List Nat} (ha : a ∈ r0 :: rs) (hb : b ∈ r0 :: rs) (e : a.getD 0 0 = b.getD 0 0) : a = b := by
  obtain ⟨i, hi, ea⟩ := List.mem_iff_getElem.mp ha
  obtain ⟨j, hj, eb⟩ := List.mem_iff_getElem.mp hb
  have key : ∀ {i j : Nat} (hi : i < (r0 :: rs).length) (hj : j < (r0 :: rs).length), i < j → ((r0 :: rs)[i]).getD 0 0 < ((r0 :: rs)[j]).getD 0 0 := fun {i j} hi hj hlt => List.pairwise_iff_getElem.mp h.pw i j hi hj hlt
  rcases Nat.lt_trichotomy i j with q | q | q
  · have := key hi hj q
    rw [ea, eb] at this
    omega
  · subst q
    rw [← ea, ← eb]
  · have := key hj hi q
    rw [ea, eb] at this
    omega
/-- rings of rs whose first is a first of some: those picked -/
theorem others_eq (h : OkN l (r0 :: rs)) (hs : pk.Sublist rs) {ord : List (List Nat)} (hp : ord.Perm pk) : rs.filter (fun r => decide (r.getD 0 0 ∈ r0.getD 0 0 :: ord.map fun r => r.getD 0 0)) = pk := by
  have hn : rs.Nodup := (List.nodup_cons.mp h.ndr).2
  refine Eq.trans (List.filter_congr fun r hr => ?_) (filter_sub1 rs pk hn hs)
  have hne : r.getD 0 0 ≠ r0.getD 0 0 := fun e => by
    have := h.head_inj (List.mem_cons_of_mem _ hr) (List.mem_cons_self ..) e
    subst this
    exact (List.nodup_cons.mp h.ndr).1 hr
  by_cases e : r ∈ pk
  · rw [decide_eq_true e, decide_eq_true]
    exact List.mem_cons_of_mem _ (List.mem_map.mpr ⟨r, hp.mem_iff.mpr e, rfl⟩)
  · rw [decide_eq_false e, decide_eq_false]
    intro z
    rcases List.mem_cons.mp z with z | z
    · exact hne z
    · obtain ⟨r', hr', e2⟩ := List.mem_map.mp z
      have hr2 := hp.mem_iff.mp hr'
      have := h.head_inj (List.mem_cons_of_mem _ (hs.subset hr2)) (List.mem_cons_of_mem _ hr) e2
      subst this
      exact e hr2
/-- turned rings: the least, the first with it, and how far -/
theorem rot_head {r : List Nat} {d : Nat} (hd : d < r.length) : (rotP (r, d))[0]? = some r[d] := by
  unfold rotP
  rw [rot_get hd (by omega), Nat.zero_add, Nat.mod_eq_of_lt hd]
  exact List.getElem?_eq_getElem hd
theorem rotP_mem {r : List Nat} {d x : Nat} : x ∈ rotP (r, d) ↔ x ∈ r := rot_mem
theorem first_of (h : OkN l (r0 :: rs)) (hs : pk.Sublist rs) {r : List Nat} (hr : r ∈ pk) : pk.filter (fun x => decide (x.getD 0 0 = r.getD 0 0)) = [r] := by
  have hn : pk.Nodup := ((List.nodup_cons.mp h.ndr).2).sublist hs
  have e : pk.filter (fun x => decide (x.getD 0 0 = r.getD 0 0)) = pk.filter (fun x => decide (x ∈ [r])) := by
    refine List.filter_congr fun x hx => ?_
    by_cases e : x = r
    · subst e
      simp
    · have : ¬ x.getD 0 0 = r.getD 0 0 := fun z => e (h.head_inj (List.mem_cons_of_mem _ (hs.subset hx)) (List.mem_cons_of_mem _ (hs.subset hr)) z)
      rw [decide_eq_false this, decide_eq_false]
      simpa using e
  rw [e]
  exact filter_sub1 pk [r] hn (List.singleton_sublist.mpr hr)
end
theorem sum_enum (l : Nat) : ∀ (ds : List Nat) (a : Nat), (((List.range' a ds.length).zip ds).map fun p => p.2 * l ^ p.1).sum = sumD l ds a
  | [], a => rfl
  | d :: ds, a => by
    rw [List.length_cons, List.range'_succ, List.zip_cons_cons, List.map_cons, List.sum_cons, sum_enum l ds (a + 1)]
    rfl
theorem root_root {σ : List Nat} {t n : Nat} (h : IsP σ) (hz : σ.length ≤ 60) (ht : 0 < t) (hw : ∀ l ∈ lens σ, 0 < wayN l t (ofLen σ l).length) : OStage (outerF t (byLen σ) n (List.replicate σ.length 0)) σ t (lens σ) n :=
  outer_stage h (lens σ) n _ (lens_lt.imp fun h => by omega) (fun l hl => ⟨(lens_lt64 h hz hl).1, hw l hl⟩) (by simp)
/-- how many roots there are -/
def countN (σ : List Nat) (t : Nat) : Nat := (lens σ).foldl (fun a l => a * wayN l t (ofLen σ l).length) 1
end AO
set_option Elab.async false
set_option linter.all false
set_option maxRecDepth 100000
/-! AOMathN4: unlike numbers give unlike roots; all orders of a few things. -/
namespace AO
theorem ring_same {l : Nat} {left : List (List Nat)} (h : OkN l left) {a b : List Nat} (ha : a ∈ left) (hb : b ∈ left) {x : Nat} (hxa : x ∈ a) (hxb : x ∈ b) : a = b := by
  obtain ⟨i, hi⟩ := List.getElem?_of_mem ha
  obtain ⟨j, hj⟩ := List.getElem?_of_mem hb
  obtain ⟨u, hu⟩ := List.getElem?_of_mem hxa
  obtain ⟨v, hv⟩ := List.getElem?_of_mem hxb
  obtain ⟨rfl, _⟩ := flat_inj h.nd hi hu hj hv
  rw [hi] at hj
  exact Option.some.inj hj
theorem rotP_inj {l : Nat} (hl : 0 < l) {left : List (List Nat)} (h : OkN l left) {a b : List Nat} {d e : Nat} (ha : a ∈ left) (hb : b ∈ left) (hd : d < l) (he : e < l) (q : rotP (a, d) = rotP (b, e)) : a = b ∧ d = e := by
  have la := h.len a ha
  have lb := h.len b hb
  have h1 := rot_head (r := a) (d := d) (by omega)
  have h2 := rot_head (r := b) (d := e) (by omega)
  rw [q, h2] at h1
  have hx : a[d]'(by omega) ∈ b := by
    rw [← Option.some.inj h1]
    exact List.getElem_mem _
  have e1 := ring_same h ha hb (List.getElem_mem _) hx
  subst e1
  refine ⟨rfl, ?_⟩
  have hnd := (flat_nd h.nd).1 a ha
  exact ((List.getElem_inj hnd).mp (Option.some.inj h1)).symm
theorem zip_rot_inj {l : Nat} (hl : 0 < l) {left : List (List Nat)} (h : OkN l left) : ∀ (o o' : List (List Nat)) (ds ds' : List Nat), (∀ r ∈ o, r ∈ left) → (∀ r ∈ o', r ∈ left) → (∀ d ∈ ds, d < l) → (∀ d ∈ ds', d < l) → o.length = ds.length → o'.length = ds'.length → (o.zip ds).map rotP = (o'.zip ds').map rotP → o = o' ∧ ds = ds'
  | [], [], [], [], _, _, _, _, _, _, _ => ⟨rfl, rfl⟩
  | [], _ :: _, [], _ :: _, _, _, _, _, _, _, q => by simp at q
  | _ :: _, [], _ :: _, [], _, _, _, _, _, _, q => by simp at q
  | r :: o, r' :: o', d :: ds, d' :: ds', h1, h2, h3, h4, l1, l2, q => by
    simp only [List.zip_cons_cons, List.map_cons, List.cons.injEq] at q
    obtain ⟨rfl, rfl⟩ := rotP_inj hl h (h1 r (List.mem_cons_self ..)) (h2 r' (List.mem_cons_self ..)) (h3 d (List.mem_cons_self ..)) (h4 d' (List.mem_cons_self ..)) q.1
    obtain ⟨rfl, rfl⟩ := zip_rot_inj hl h o o' ds ds' (fun r hr => h1 r (List.mem_cons_of_mem _ hr)) (fun r hr => h2 r (List.mem_cons_of_mem _ hr)) (fun r hr => h3 r (List.mem_cons_of_mem _ hr)) (fun r hr => h4 r (List.mem_cons_of_mem _ hr)) (by simpa using l1) (by simpa using l2) q.2
    exact ⟨rfl, rfl⟩
  | [], _, _ :: _, _, _, _, _, _, l1, _, _ => by simp at l1
  | _ :: _, _, [], _, _, _, _, _, l1, _, _ => by simp at l1
  | _, [], _, _ :: _, _, _, _, _, _, l2, _ => by simp at l2
  | _, _ :: _, _, [], _, _, _, _, _, l2, _ => by simp at l2
theorem home_inj {R : List Nat} {l t : Nat} (hl : 0 < l) : ∀ (k : Nat) (left : List (List Nat)) (here here' : Nat), left.length ≤ k → here < wayN l t left.length → here' < wayN l t left.length → OkN l left → Home R l t k left here → Home R l t k left here' → here = here'
  | k, [], here, here', _, h2, h3, _, _, _ => by
    have e : wayN l t ([] : List (List Nat)).length = 1 := rfl
    rw [e] at h2 h3
    omega
  | 0, r0 :: rs, here, here', h1, _, _, _, _, _ => by simp at h1
  | k + 1, r0 :: rs, here, here', h1, h2, h3, hO, q1, q2 => by
    have T := turn_ok hl (hO.len r0 (List.mem_cons_self ..)) h2
    have T' := turn_ok hl (hO.len r0 (List.mem_cons_self ..)) h3
    obtain ⟨pk, ord, T0, N⟩ := turn_num hl hO h2
    obtain ⟨pk', ord', T0', N'⟩ := turn_num hl hO h3
    simp only [Home] at q1 q2
    have hsub := turn_rest l t r0 rs here
    generalize turnAt l t r0 rs here = u at T N q1 hsub
    generalize turnAt l t r0 rs here' = u' at T' N' q2
    have hsome : u.some = u'.some := by
      have := q1.1.symm.trans q2.1
      exact Option.some.inj this
    have hsz : u.size = u'.size := by rw [← T.size, ← T'.size, hsome]
    have hz : (ord.zip (digits l (u.size - 1) T0)).map rotP = (ord'.zip (digits l (u'.size - 1) T0')).map rotP := by
      have e1 := N.some
      rw [hsome, N'.some] at e1
      exact ((List.cons.inj e1).2).symm
    have hol : ord.length = u.size - 1 := by rw [N.perm.length_eq, N.plen]
    have hol' : ord'.length = u'.size - 1 := by rw [N'.perm.length_eq, N'.plen]
    have hin : ∀ r ∈ ord, r ∈ r0 :: rs := fun r hr => List.mem_cons_of_mem _ (N.psub.subset (N.perm.mem_iff.mp hr))
    have hin' : ∀ r ∈ ord', r ∈ r0 :: rs := fun r hr => List.mem_cons_of_mem _ (N'.psub.subset (N'.perm.mem_iff.mp hr))
    obtain ⟨e1, e2⟩ := zip_rot_inj hl hO ord ord' _ _ hin hin' (digits_lt hl _ _) (digits_lt hl _ _) (by rw [digits_length, hol]) (by rw [digits_length, hol']) hz
    subst e1
    have e3 : T0 = T0' := by
      have a := sumD_digits l _ T0 0 N.t0
      have b := sumD_digits l _ T0' 0 N'.t0
      rw [e2, b] at a
      simpa using a.symm
    have e4 : pk = pk' := by
      rw [← others_eq hO N.psub N.perm, ← others_eq hO N'.psub N'.perm]
    subst e3 e4
    have hmine : u.mine = u'.mine := by rw [← N.nump, ← N'.nump, hsz]
    have hweave : u.weave = u'.weave := by rw [← N.numo, ← N'.numo, hsz]
    have hrest : u.rest = u'.rest := by rw [← N.rest, ← N'.rest]
    have hless := T.less
    have hgm := mem_groups.mp T.grp
    have hh : u.here = u'.here := home_inj hl k u.rest u.here u'.here (by rw [List.length_cons] at h1; omega) T.here (by rw [hrest]; exact T'.here) (hO.sub (hsub.cons r0)) q1.2 (by rw [hrest]; exact q2.2)
    have s1 := N.sum
    have s2 := N'.sum
    rw [hsz, hmine, hweave, hh] at s1
    omega
/-- how many roots there are of the lengths ls -/
def prodN (σ : List Nat) (t : Nat) : List Nat → Nat
  | [] => 1
  | l :: ls => wayN l t (ofLen σ l).length * prodN σ t ls
theorem countN_prod (σ : List Nat) (t : Nat) : countN σ t = prodN σ t (lens σ) := by
  have aux : ∀ (ls : List Nat) (a : Nat), ls.foldl (fun a l => a * wayN l t (ofLen σ l).length) a = a * prodN σ t ls := by
    intro ls
    induction ls with
    | nil => intro a; exact (Nat.mul_one a).symm
    | cons l ls ih =>
      intro a
      rw [List.foldl_cons, ih]
      show _ = a * (_ * _)
      rw [Nat.mul_assoc]
  unfold countN
  rw [aux, Nat.one_mul]
theorem ostage_inj {σ R : List Nat} {t : Nat} (h : IsP σ) (hR : IsP R) (hlen : R.length = σ.length) : ∀ (ls : List Nat) (n n' : Nat), (∀ l ∈ ls, 0 < l ∧ 0 < wayN l t (ofLen σ l).length) → n < prodN σ t ls → n' < prodN σ t ls → OStage R σ t ls n → OStage R σ t ls n' → n = n'
  | [], n, n', _, h1, h2, _, _ => by
    have : prodN σ t [] = 1 := rfl
    omega
  | l :: ls, n, n', hw, h1, h2, q1, q2 => by
    obtain ⟨w1, w2⟩ := hw l (List.mem_cons_self ..)
    simp only [OStage] at q1 q2
    have hlt : ∀ x ∈ (ofLen σ l).flatten, x < R.length := fun x hx => by
      rw [hlen]
      exact (ofLen_lt h hx).1
    have m1 := Nat.mod_lt n w2
    have m2 := Nat.mod_lt n' w2
    have a := stage_home hR w1 _ _ _ (Nat.le_refl _) m1 (okN_of h l) hlt q1.1
    have b := stage_home hR w1 _ _ _ (Nat.le_refl _) m2 (okN_of h l) hlt q2.1
    have e1 := home_inj w1 _ _ _ _ (Nat.le_refl _) m1 m2 (okN_of h l) a b
    have e2 := ostage_inj h hR hlen ls _ _ (fun l hl => hw l (List.mem_cons_of_mem _ hl)) (Nat.div_lt_of_lt_mul h1) (Nat.div_lt_of_lt_mul h2) q1.2 q2.2
    have a1 := Nat.mod_add_div n (wayN l t (ofLen σ l).length)
    have a2 := Nat.mod_add_div n' (wayN l t (ofLen σ l).length)
    rw [e1, e2] at a1
    omega
theorem prod_pos {σ : List Nat} {t : Nat} : ∀ {ls : List Nat} {n : Nat}, n < prodN σ t ls → ∀ l ∈ ls, 0 < wayN l t (ofLen σ l).length
  | l :: ls, n, h, l', hl' => by
    have h0 : 0 < wayN l t (ofLen σ l).length * prodN σ t ls := Nat.lt_of_le_of_lt (Nat.zero_le n) h
    have a : 0 < wayN l t (ofLen σ l).length := Nat.pos_of_mul_pos_right h0
    have b : 0 < prodN σ t ls := Nat.pos_of_mul_pos_left h0
    rcases List.mem_cons.mp hl' with rfl | hl'
    · exact a
    · exact prod_pos (n := 0) b l' hl'
abbrev rootN (σ : List Nat) (t n : Nat) : List Nat := outerF t (byLen σ) n (List.replicate σ.length 0)
theorem rootN_ok {σ : List Nat} {t n : Nat} (h : IsP σ) (hz : σ.length ≤ 60) (ht : 0 < t) (hn : n < countN σ t) : RootOf σ t (rootN σ t n) := by
  rw [countN_prod] at hn
  exact outer_root h hz ht (prod_pos hn)
theorem rootN_inj {σ : List Nat} {t n n' : Nat} (h : IsP σ) (hz : σ.length ≤ 60) (ht : 0 < t) (hn : n < countN σ t) (hn' : n' < countN σ t) (e : rootN σ t n = rootN σ t n') : n = n' := by
  have hR := rootN_ok h hz ht hn
  have hp := hn
  rw [countN_prod] at hn hn' hp
  have hw := prod_pos hp
  have q1 := root_root (n := n) h hz ht hw
  have q2 := root_root (n := n') h hz ht hw
  have q2' : OStage (rootN σ t n) σ t (lens σ) n' := by
    rw [e]
    exact q2
  exact ostage_inj h hR.1 hR.2.1 (lens σ) n n' (fun l hl => ⟨(lens_lt64 h hz hl).1, hw l hl⟩) hn hn' q1 q2'
/-! all orders of a few things -/
def insAll (k : Nat) (o : List Nat) : List (List Nat) := (List.range (o.length + 1)).map fun a => o.take a ++ [k] ++ o.drop a
def allF : Nat → List (List Nat)
  | 0 => [[]]
  | k + 1 => (allF k).flatMap (insAll k)
theorem mem_all : ∀ {n : Nat} {R : List Nat}, R ∈ allF n ↔ R.Perm (List.range n)
  | 0, R => by
    rw [List.range_zero, List.perm_nil]
    simp [allF]
  | n + 1, R => by
    simp only [allF, List.mem_flatMap, insAll, List.mem_map, List.mem_range]
    constructor
    · rintro ⟨o, ho, a, ha, rfl⟩
      have hp := (mem_all (n := n)).mp ho
      rw [List.range_succ]
      have h1 : (o.take a ++ [n] ++ o.drop a).Perm (n :: (o.take a ++ o.drop a)) := by
        rw [List.append_assoc]
        exact List.perm_middle
      rw [List.take_append_drop] at h1
      exact h1.trans ((hp.cons n).trans (List.perm_append_singleton n _).symm)
    · intro h
      have hn : n ∈ R := h.mem_iff.mpr (List.mem_range.mpr (by omega))
      obtain ⟨a, b, rfl⟩ := List.append_of_mem hn
      refine ⟨a ++ b, (mem_all (n := n)).mpr ?_, a.length, by simp; omega, ?_⟩
      · have h1 : (n :: (a ++ b)).Perm (n :: List.range n) := List.perm_middle.symm.trans (h.trans (by rw [List.range_succ]; exact List.perm_append_singleton n _))
        exact List.Perm.cons_inv h1
      · simp
theorem mem_allP {n : Nat} {R : List Nat} : R ∈ allF n ↔ IsP R ∧ R.length = n := by
  rw [mem_all]
  constructor
  · intro h
    have hl := h.length_eq
    rw [List.length_range] at hl
    refine ⟨?_, hl⟩
    unfold IsP
    rw [hl]
    exact h
  · rintro ⟨h1, rfl⟩
    exact h1
theorem all_nodup {n : Nat} (h : n ≤ 5) : (allF n).Nodup := by
  match n, h with
  | 0, _ => decide +kernel
  | 1, _ => decide +kernel
  | 2, _ => decide +kernel
  | 3, _ => decide +kernel
  | 4, _ => decide +kernel
  | 5, _ => decide +kernel
end AO
set_option Elab.async false
set_option linter.all false
set_option maxRecDepth 100000
/-! AOMathN5: of few things the roots told are all roots; what stands still. -/
namespace AO
theorem small4 : ∀ t ∈ [1, 2, 3, 4, 5, 6, 7, 8, 9, 10, 11, 12], ∀ n ∈ [0, 1, 2, 3, 4], ((allF n).map fun σ => countN σ t).sum = (allF n).length := by decide +kernel
theorem small5 : ∀ t ∈ [1, 2, 3, 4, 5, 6, 7, 8, 9, 10, 11, 12], ((allF 5).map fun σ => countN σ t).sum = (allF 5).length := by decide +kernel
theorem small_all {n t : Nat} (hn : n ≤ 5) (h1 : 1 ≤ t) (h2 : t ≤ 12) : ((allF n).map fun σ => countN σ t).sum = (allF n).length := by
  have ht : t ∈ [1, 2, 3, 4, 5, 6, 7, 8, 9, 10, 11, 12] := by
    simp only [List.mem_cons, List.not_mem_nil, or_false]
    omega
  by_cases e : n = 5
  · subst e
    exact small5 t ht
  · refine small4 t ht n ?_
    simp only [List.mem_cons, List.not_mem_nil, or_false]
    omega
theorem sum_one {α : Type} [DecidableEq α] {x : α} : ∀ {A : List α}, A.Nodup → x ∈ A → (A.map fun y => if x = y then 1 else 0).sum = 1
  | y :: A, hn, hx => by
    obtain ⟨n1, n2⟩ := List.nodup_cons.mp hn
    rw [List.map_cons, List.sum_cons]
    by_cases e : x = y
    · subst e
      rw [if_pos rfl]
      have : (A.map fun y => if x = y then 1 else 0).sum = 0 := by
        have z : ∀ {B : List α}, x ∉ B → (B.map fun y => if x = y then 1 else 0).sum = 0 := fun {B} => by
          induction B with
          | nil => intro _; rfl
          | cons b B ih =>
            intro hb
            rw [List.map_cons, List.sum_cons, ih fun z => hb (List.mem_cons_of_mem _ z), if_neg fun e => hb (by rw [e]; exact List.mem_cons_self ..)]
        exact z n1
      omega
    · rw [if_neg e, sum_one n2 (by
        rcases List.mem_cons.mp hx with hx | hx
        · exact absurd hx e
        · exact hx)]
theorem sum_add {α : Type} (f g : α → Nat) : ∀ A : List α, (A.map fun y => f y + g y).sum = (A.map f).sum + (A.map g).sum
  | [] => rfl
  | a :: A => by
    simp only [List.map_cons, List.sum_cons]
    rw [sum_add f g A]
    omega
theorem sum_zero {α : Type} : ∀ A : List α, (A.map fun _ => 0).sum = 0
  | [] => rfl
  | a :: A => by
    rw [List.map_cons, List.sum_cons, sum_zero A]
theorem double_count {α β : Type} [DecidableEq α] {A : List α} (hA : A.Nodup) (f : β → α) : ∀ B : List β, (∀ R ∈ B, f R ∈ A) → (A.map fun σ => (B.filter fun R => decide (f R = σ)).length).sum = B.length
  | [], _ => sum_zero A
  | R :: B, h => by
    have e : (A.map fun σ => ((R :: B).filter fun R => decide (f R = σ)).length) = A.map fun σ => (if f R = σ then 1 else 0) + (B.filter fun R => decide (f R = σ)).length := by
      apply List.map_congr_left
      intro σ _
      rw [List.filter_cons]
      by_cases e : f R = σ
      · simp [e]
        omega
      · simp [e]
    rw [e, sum_add, sum_one hA (h R (List.mem_cons_self ..)), double_count hA f B fun R hR => h R (List.mem_cons_of_mem _ hR), List.length_cons]
    omega
theorem sum_le {α : Type} (g h : α → Nat) : ∀ A : List α, (∀ x ∈ A, g x ≤ h x) → (A.map g).sum ≤ (A.map h).sum
  | [], _ => Nat.le_refl _
  | a :: A, hh => by
    simp only [List.map_cons, List.sum_cons]
    have := sum_le g h A fun x hx => hh x (List.mem_cons_of_mem _ hx)
    have := hh a (List.mem_cons_self ..)
    omega
theorem sum_eq_le {α : Type} (g h : α → Nat) : ∀ A : List α, (∀ x ∈ A, g x ≤ h x) → (A.map g).sum = (A.map h).sum → ∀ x ∈ A, g x = h x
  | a :: A, hh, e, x, hx => by
    simp only [List.map_cons, List.sum_cons] at e
    have h1 := sum_le g h A fun x hx => hh x (List.mem_cons_of_mem _ hx)
    have h2 := hh a (List.mem_cons_self ..)
    rcases List.mem_cons.mp hx with rfl | hx
    · omega
    · exact sum_eq_le g h A (fun x hx => hh x (List.mem_cons_of_mem _ hx)) (by omega) x hx
theorem nodup_leA {α : Type} [BEq α] [LawfulBEq α] : ∀ {l m : List α}, l.Nodup → (∀ x ∈ l, x ∈ m) → l.length ≤ m.length
  | [], _, _, _ => Nat.zero_le _
  | a :: l, m, h, hs => by
    have ha : a ∈ m := hs a (List.mem_cons_self ..)
    have h2 := List.nodup_cons.mp h
    have := nodup_leA (l := l) (m := m.erase a) h2.2 fun x hx => by
      have : x ≠ a := fun e => h2.1 (e ▸ hx)
      exact (List.mem_erase_of_ne this).mpr (hs x (List.mem_cons_of_mem _ hx))
    rw [List.length_erase_of_mem ha] at this
    have : 0 < m.length := List.length_pos_of_mem ha
    simp
    omega
def dueL (σ : List Nat) (t : Nat) : List (List Nat) := (allF σ.length).filter fun R => decide (pwL R (t : Int) = σ)
def foundL (σ : List Nat) (t : Nat) : List (List Nat) := (List.range (countN σ t)).map (rootN σ t)
theorem found_nodup {σ : List Nat} {t : Nat} (h : IsP σ) (hz : σ.length ≤ 60) (ht : 0 < t) : (foundL σ t).Nodup := by
  unfold foundL
  rw [List.nodup_iff_pairwise_ne, List.pairwise_map]
  refine List.Pairwise.imp_of_mem (R := (· < ·)) ?_ List.pairwise_lt_range
  intro a b ha hb hab e
  have := rootN_inj h hz ht (List.mem_range.mp ha) (List.mem_range.mp hb) e
  omega
theorem found_due {σ : List Nat} {t : Nat} (h : IsP σ) (hz : σ.length ≤ 60) (ht : 0 < t) : ∀ R ∈ foundL σ t, R ∈ dueL σ t := fun R hR => by
  obtain ⟨n, hn, rfl⟩ := List.mem_map.mp hR
  have := rootN_ok h hz ht (List.mem_range.mp hn)
  exact List.mem_filter.mpr ⟨mem_allP.mpr ⟨this.1, this.2.1⟩, decide_eq_true this.2.2⟩
theorem small_perm {σ : List Nat} {t : Nat} (h : IsP σ) (hz : σ.length ≤ 5) (h1 : 1 ≤ t) (h2 : t ≤ 12) : (foundL σ t).Perm (dueL σ t) := by
  have hA := all_nodup hz
  have hdc := double_count hA (fun R => pwL R (t : Int)) (allF σ.length) fun R hR => by
    obtain ⟨a, b⟩ := mem_allP.mp hR
    exact mem_allP.mpr ⟨pwL_P a _, by rw [pwL_length, b]⟩
  have hle : ∀ ρ ∈ allF σ.length, countN ρ t ≤ ((allF σ.length).filter fun R => decide (pwL R (t : Int) = ρ)).length := fun ρ hρ => by
    obtain ⟨a, b⟩ := mem_allP.mp hρ
    have hn := found_nodup (t := t) a (by omega) h1
    have := nodup_leA hn (found_due a (by omega) h1)
    unfold foundL dueL at this
    rw [List.length_map, List.length_range, b] at this
    exact this
  have heq := sum_eq_le _ _ (allF σ.length) hle ((small_all hz h1 h2).trans hdc.symm) σ (mem_allP.mpr ⟨h, rfl⟩)
  have hn := found_nodup (t := t) h (by omega) h1
  have hd : (dueL σ t).Nodup := hA.filter _
  refine (List.perm_ext_iff_of_nodup hn hd).mpr fun R => ⟨found_due h (by omega) h1 R, fun hR => ?_⟩
  refine Classical.byContradiction fun hne => ?_
  have h3 := nodup_leA (m := (dueL σ t).erase R) hn fun x hx => (List.mem_erase_of_ne (fun (e : x = R) => hne (e ▸ hx))).mpr (found_due h (by omega) h1 x hx)
  rw [List.length_erase_of_mem hR] at h3
  have h4 := List.length_pos_of_mem hR
  unfold foundL at h3
  rw [List.length_map, List.length_range] at h3
  unfold dueL at h3 h4
  omega
/-! what stands still -/
theorem part_one (t : Nat) : partN 1 t = 1 := partN_of ⟨t, 0, by simp, Nat.coprime_one_right t, by simp⟩
theorem way_one {t : Nat} (ht : 0 < t) (m : Nat) : 0 < wayN 1 t m := (way_pos Nat.one_pos ht m).mpr (by rw [part_one]; exact Nat.one_dvd m)
theorem turn_still {t : Nat} (ht : 0 < t) {r0 : List Nat} {rs : List (List Nat)} (hO : OkN 1 (r0 :: rs)) : (turnAt 1 t r0 rs 0).some = [r0] ∧ (turnAt 1 t r0 rs 0).rest = rs ∧ (turnAt 1 t r0 rs 0).here = 0 := by
  have hw := way_one ht (rs.length + 1)
  have T := turn_ok Nat.one_pos (hO.len r0 (List.mem_cons_self ..)) hw
  obtain ⟨pk, ord, T0, N⟩ := turn_num Nat.one_pos hO hw
  have hsub := turn_rest 1 t r0 rs 0
  generalize turnAt 1 t r0 rs 0 = u at *
  have hs := N.sum
  have hg := mem_groups.mp T.grp
  have hsz : u.size = 1 := by
    refine Classical.byContradiction fun hne => ?_
    have h1 : 1 ∈ (groupsF 1 t (rs.length + 1)).filter fun s => decide (s < u.size) := List.mem_filter.mpr ⟨mem_groups.mpr ⟨Nat.le_refl 1, by omega, Nat.gcd_one_right t⟩, decide_eq_true (by omega)⟩
    have h2 := sum_pos (List.mem_map.mpr ⟨1, h1, rfl⟩) (show 0 < blkN 1 t (rs.length + 1) 1 from Nat.mul_pos (begun_pos Nat.one_pos (by omega)) (way_one ht _))
    omega
  have hless := T.less
  have hol : ord.length = 0 := by rw [N.perm.length_eq, N.plen, hsz]
  refine ⟨?_, hsub.eq_of_length (by omega), by omega⟩
  rw [N.some, List.length_eq_zero_iff.mp hol]
  rfl
theorem inner_still {t : Nat} (ht : 0 < t) : ∀ (k : Nat) (left : List (List Nat)) (root : List Nat), left.length ≤ k → OkN 1 left → (∀ x ∈ left.flatten, x < root.length) → ∀ x ∈ left.flatten, ap (innerF 1 t k left 0 root) x = x
  | k, [], _, _, _, _, x, hx => by simp at hx
  | 0, r0 :: rs, _, h, _, _, _, _ => by simp at h
  | k + 1, r0 :: rs, root, h, hO, hlt, x, hx => by
    obtain ⟨e1, e2, e3⟩ := turn_still ht hO
    simp only [innerF]
    rw [e1, e2, e3]
    have hsub : OkN 1 rs := hO.sub (List.sublist_cons_self r0 rs)
    have hx' : x ∈ r0 ∨ x ∈ rs.flatten := by
      rw [List.flatten_cons, List.mem_append] at hx
      exact hx
    have hnd := hO.nd
    rw [List.flatten_cons, List.nodup_append] at hnd
    rcases hx' with hx' | hx'
    · rw [inner_out Nat.one_pos k rs 0 _ (by simp at h; omega) (way_one ht _) hsub.len hsub.nd x fun z => hnd.2.2 x hx' x z rfl]
      have hr0 : r0.length = 1 := hO.len r0 (List.mem_cons_self ..)
      have hW : Wv [r0] 1 t := ⟨fun r hr => by rw [List.mem_singleton.mp hr]; exact hr0, by simp, Nat.one_pos, by simpa using hnd.1, by
        show Nat.gcd t (1 * 1) = 1
        exact Nat.gcd_one_right t⟩
      obtain ⟨j, hj⟩ := List.getElem?_of_mem hx'
      have hk := hW.whole_at (i := 0) (j := j) rfl hj
      have hin := hW.woven_in (root := root) (fun y hy => hlt y (by
        rw [List.flatten_cons, List.mem_append]
        exact .inl (by simpa using hy))) hk
      have z : ∀ a : Nat, a % ([r0].length * 1) = 0 := fun a => Nat.mod_one a
      rw [z] at hk hin
      rw [hk] at hin
      exact (Option.some.inj hin).symm
    · exact inner_still ht k rs _ (by simp at h; omega) hsub (fun y hy => by
        rw [wovenF_length]
        exact hlt y (by rw [List.flatten_cons, List.mem_append]; exact .inr hy)) x hx'
theorem range_ap (n x : Nat) : ap (List.range n) x = x := by
  by_cases h : x < n
  · rw [ap_lt (by simpa using h)]
    simp
  · exact ap_ge (by simp; omega)
theorem range_per (n x : Nat) : per (List.range n) x = 1 := by
  have := (range_P n).per_min (x := x) (k := 1) Nat.one_pos (range_ap n x)
  have := per_pos (σ := List.range n) x
  omega
theorem lens_still (n : Nat) : ∀ l ∈ lens (List.range n), l = 1 := fun l hl => by
  obtain ⟨r, hr, rfl⟩ := (mem_lens (range_P n)).mp hl
  obtain ⟨s, _, _, rfl⟩ := (mem_rings (range_P n)).mp hr
  rw [orb_length, range_per]
theorem count_still {t : Nat} (ht : 0 < t) (n : Nat) : 0 < countN (List.range n) t := by
  rw [countN_prod]
  have : ∀ ls : List Nat, (∀ l ∈ ls, l = 1) → 0 < prodN (List.range n) t ls := by
    intro ls
    induction ls with
    | nil => intro _; exact Nat.one_pos
    | cons l ls ih =>
      intro h
      rw [h l (List.mem_cons_self ..)]
      exact Nat.mul_pos (way_one ht _) (ih fun l hl => h l (List.mem_cons_of_mem _ hl))
  exact this _ (lens_still n)
theorem root_still {t : Nat} (ht : 0 < t) (n : Nat) : rootN (List.range n) t 0 = List.range n := by
  have hlen : (rootN (List.range n) t 0).length = n := by
    unfold rootN
    rw [outer_len (σ := [])]
    simp
  have key : ∀ (ls : List Nat) (root : List Nat), ls.Nodup → (∀ l ∈ ls, l = 1) → root.length = n → ∀ x, (∃ l ∈ ls, x ∈ (ofLen (List.range n) l).flatten) → ap (outerF t (lsP (List.range n) ls) 0 root) x = x := by
    intro ls root hn h1 hl x ⟨l, hl1, hx⟩
    match ls, hn, h1, hl1 with
    | [l'], _, h1, hl1 =>
      have e := h1 l' (List.mem_cons_self ..)
      have e2 := List.mem_singleton.mp hl1
      subst e2
      subst e
      simp only [lsP, List.map_cons, List.map_nil, outerF, Int.toNat_natCast, Nat.zero_mod]
      exact inner_still ht _ _ _ (Nat.le_refl _) (okN_of (range_P n) 1) (fun y hy => by
        have := (ofLen_lt (range_P n) hy).1
        rw [List.length_range] at this
        omega) x hx
    | a :: b :: ls, hn, h1, _ =>
      have ea := h1 a (List.mem_cons_self ..)
      have eb := h1 b (List.mem_cons_of_mem _ (List.mem_cons_self ..))
      subst ea eb
      simp at hn
  refine List.ext_getElem? fun x => ?_
  by_cases hx : x < n
  · obtain ⟨r, hr, hxr⟩ := in_ring (range_P n) (show x < (List.range n).length by simpa using hx)
    have := key (lens (List.range n)) (List.replicate (List.range n).length 0) (lens_lt.imp fun h => by omega) (lens_still n) (by simp) x ⟨r.length, (mem_lens (range_P n)).mpr ⟨r, hr, rfl⟩, List.mem_flatten.mpr ⟨r, mem_ofLen.mpr ⟨hr, rfl⟩, hxr⟩⟩
    have h2 : ap (rootN (List.range n) t 0) x = x := this
    rw [ap_lt (by omega)] at h2
    rw [List.getElem?_eq_getElem (by omega), List.getElem?_range hx, h2]
  · rw [List.getElem?_eq_none (by omega), List.getElem?_eq_none (by simp; omega)]
end AO
set_option Elab.async false
set_option linter.all false
set_option maxRecDepth 100000
set_option maxHeartbeats 1000000
/-! AODictEq: == of two dicts with flat values. -/
namespace AO
universe u v
open PySem PySem.Spec PyProof.Rows L2
def hitsV (ls : List (Key × V)) : List (Key × V) → Bool
  | [] => true
  | p :: ps => match valV ls p.1 with
    | none => false
    | some u => eqV p.2 u && hitsV ls ps
theorem val_mem {ls : List (Key × V)} {k : Key} {u : V} (h : valV ls k = some u) : ∃ p ∈ ls, p.2 = u := by
  unfold valV at h
  cases e : ls.find? fun p => decide (p.1 = k) with
  | none =>
    rw [e] at h
    cases h
  | some p =>
    rw [e] at h
    exact ⟨p, List.mem_of_find?_eq_some e, Option.some.inj h⟩
theorem hits_flat {P : Program} {w : World} {A : Around} {s : Shared} {ls : List (Key × V)} {vb : List (Key × Value)} (rb : KV ls vb) (fl : ∀ p ∈ ls, flatV p.2 = true) {ks : List (Key × V)} {va : List (Key × Value)} (ra : KV ks va) : (∀ p ∈ ks, flatV p.2 = true) → PySem.W.KeqHitsP P w A s vb va (hitsV ls ks) := by
  unfold KV at ra
  induction ra with
  | nil => intro _; exact .nil
  | @cons p q ps qs h t ih =>
    intro fp
    obtain ⟨key, v⟩ := q
    obtain ⟨h1, h2⟩ := h
    obtain rfl : p.1 = key := h1
    have rv := rb.val p.1
    unfold hitsV
    cases e : valV ls p.1 with
    | none =>
      rw [e] at rv
      refine .miss ?_
      cases z : valueAt vb p.1 with
      | none => rfl
      | some y =>
        rw [z] at rv
        exact (show False from rv).elim
    | some u =>
      rw [e] at rv
      obtain ⟨y, hy, ry⟩ := rv.some_of
      obtain ⟨p', hp', e2⟩ := val_mem e
      exact .hit hy (eqAt_V h2 ry (fp p (List.mem_cons_self ..)) (by rw [← e2]; exact fl p' hp')).eqP (ih fun q hq => fp q (List.mem_cons_of_mem _ hq))
def rEqK : R2 := fun x y H Q => ∃ a b ks ls, x = .ref a ∧ y = .ref b ∧ H a = some (.dK ks) ∧ H b = some (.dK ls) ∧ (∀ p ∈ ks, flatV p.2 = true) ∧ (∀ p ∈ ls, flatV p.2 = true) ∧ Q (.bl (ks.length == ls.length && hitsV ls ks)) H
theorem op_eqK {X : Cx} (hu : X.A.units < cLine) : OpR X (compareOp .Eq) rEqK := by
  intro pins s σ H x y v u Q I rx ry h
  obtain ⟨a, b, ks, ls, rfl, rfl, ha, hb, f1, f2, q⟩ := h
  cases (show v = Value.ref a from rx)
  cases (show u = Value.ref b from ry)
  obtain ⟨_, ya, va, ra, da⟩ := (show ObjOk X.prog X.w H s.heap a (.dK ks) from I.hok a _ ha)
  obtain ⟨_, yb, vb, rb, db⟩ := (show ObjOk X.prog X.w H s.heap b (.dK ls) from I.hok b _ hb)
  refine PySem.W.rcP_dicts (knd := mixKind X.prog X.w) (A := X.A) ya yb da db hu (fun _ => hits_flat rb f2 ra f1) _ _ ⟨.bl _, H, I, ?_, q⟩
  show Value.bool _ = Value.bool _
  rw [← ra.length, ← rb.length]
theorem un_lt0 {k : Nat} {A : Around} (h : Room k A) : A.units < cLine := by
  have := h.un
  omega
def sameD (xs ys : List (Int × Nat)) : Bool := (xs.length == ys.length) && xs.all fun p => decide (lookD ys p.1 = some p.2)
theorem hits_rel {G : Hp} {ls : List (Key × V)} {ys : List (Int × Nat)} (hy : All2 (DRel rN G) ls ys) : ∀ {ks : List (Key × V)} {xs : List (Int × Nat)}, All2 (DRel rN G) ks xs → hitsV ls ks = xs.all fun p => decide (lookD ys p.1 = some p.2)
  | _, _, .nil => rfl
  | _, _, .cons (a := p) (b := q) h t => by
    unfold hitsV
    rw [List.all_cons, ← hits_rel hy t, h.1]
    obtain ⟨h1, h2⟩ := look_rel (k := q.1) hy
    cases e : lookD ys q.1 with
    | none =>
      rw [h2 e]
      simp
    | some n =>
      obtain ⟨v, hv, r⟩ := h1 n e
      rw [hv, show v = .int (n : Int) from r, show p.2 = .int (q.2 : Int) from h.2]
      show (((q.2 : Int) == (n : Int)) && _) = _
      congr 1
      by_cases z : n = q.2
      · simp [z]
      · have : ¬ (q.2 : Int) = (n : Int) := by omega
        simp [z, this]
theorem ev_eqK {T : List (Addr × Str)} {es : List Cell} {ta tb : TE} {xs ys : List (Int × Nat)} (h1 : EvE T (rD rN) ta es xs) (h2 : EvE T (rD rN) tb es ys) : EvE T rB (tOp rEqK ta tb) es (sameD xs ys) := ev_op h1 h2 fun G H v w Q m rv rw' q => by
  obtain ⟨a, ks, rfl, ha, _, hx⟩ := rv
  obtain ⟨b, ls, rfl, hb, _, hy⟩ := rw'
  have fl : ∀ {ks : List (Key × V)} {xs : List (Int × Nat)}, All2 (DRel rN G) ks xs → ∀ p ∈ ks, flatV p.2 = true := fun {ks xs} h p hp => by
    obtain ⟨i, hi, e⟩ := List.mem_iff_getElem.mp hp
    obtain ⟨z, _, hz⟩ := h.getl (List.getElem?_eq_getElem hi)
    rw [e] at hz
    rw [show p.2 = .int (z.2 : Int) from hz.2]
    rfl
  refine ⟨a, b, ks, ls, rfl, rfl, m.ex _ _ ha, m.ex _ _ hb, fl hx, fl hy, q _ G H (Step.refl m) ?_⟩
  show V.bl _ = V.bl _
  rw [hits_rel hy hx, hx.length, hy.length]
  rfl
end AO
set_option Elab.async false
set_option linter.all false
set_option maxRecDepth 100000
set_option maxHeartbeats 1000000
/-! AOSwap: xs[a], xs[b] = x, y. -/
namespace AO
universe u v
open PySem L2
section
variable {T : List (Addr × Str)} {G0 H0 : Hp} {es : List Cell} {α : Type} {R : Rep α} {x y : α} {ta tb t1 t2 : TE} {D : Ends} {K : PySem.W.Frag}
theorem un_lt65 {k : Nat} {A : Around} (h : Room k A) : A.units + 65 < cLine := by
  have := h.un
  omega
theorem inV_int {G : Hp} (x : Int) : ∀ {vs : List V} {xs : List Int}, All2 (rI.r G) vs xs → inV (.int x) vs = decide (x ∈ xs) ∧ vs.all flatV = true
  | _, _, .nil => ⟨rfl, rfl⟩
  | _, _, .cons (a := v) (b := y) (l := l) (m := m) h t => by
    obtain ⟨e1, e2⟩ := inV_int x t
    obtain rfl : v = .int y := h
    refine ⟨?_, by simp [flatV, e2]⟩
    unfold inV at e1 ⊢
    rw [List.any_cons, e1]
    by_cases e : y = x
    · simp [eqV, e]
    · have : ¬ x = y := fun z => e z.symm
      simp [eqV, e, this]
/-- x in (a, b, ..) -/
theorem ev_inT {x : Int} {xs : List Int} (h : EvE T rI ta es x) (h2 : EvE T (rT rI) tb es xs) : EvE T rB (tOp (rIn K false) ta tb) es (decide (x ∈ xs)) := ev_op h h2 fun G H v w Q m rv rw' q => by
  obtain ⟨a, vs, rfl, hs, hl, ha⟩ := rw'
  obtain rfl : v = .int x := rv
  obtain ⟨e1, e2⟩ := inV_int x ha
  exact ⟨a, vs, rfl, .inr (Evl.st_of (m.ex _ _ hs)), rfl, e2, q _ G H (Step.refl m) (by show V.bl _ = V.bl _; rw [← e1]; rfl)⟩
theorem go_set2 {i k1 k2 : Nat} {xs : List α} (hx : es[i]? = some (.own (oL R) xs)) (hk1 : k1 < xs.length) (hk2 : k2 < xs.length) (ha : EvE T R ta es x) (hb : EvE T R tb es y) (h1 : EvE T rN t1 es k1) (h2 : EvE T rN t2 (es.set i (.own (oL R) (xs.set k1 x))) k2)
    (c : To T G0 H0 D.nx (es.set i (.own (oL R) ((xs.set k1 x).set k2 y)))) :
    Go T G0 H0 (tAsg (tTup (tCons ta (tCons tb tNil))) (gTup K 2 (gCons (gSub (tVar i) t1 rSetL) (gCons (gSub (tVar i) t2 rSetL) gNil)))) D es := fun G H σ F m => by
  refine ha G0 H0 G H σ F m _ fun v G1 H1 s1 r1 => hb G0 H0 G1 H1 σ F (m.step s1) _ fun w G2 H2 s2 r2 => ⟨by show 2 ≤ sizeLine; decide, fun q hq => ?_⟩
  have s3 := Step.new s2.m hq (o := .tup [v, w]) pl_tup
  have m3 := ((m.step s1).step s2).step s3
  have rv : R.r (upd G2 q (.tup [v, w])) v x := R.mono (Evl.Ex.trans s2.g s3.g) r1
  have rw' : R.r (upd G2 q (.tup [v, w])) w y := R.mono s3.g r2
  obtain ⟨p, vs, hv, hF, hp, hl, hall⟩ := m3.list hx
  have hlen : vs.length = xs.length := hall.length
  refine ⟨q, [v, w], rfl, Evl.st_of (by rw [upd_same]), rfl, v, [w], rfl, _, hv, h1 G0 H0 _ _ σ F m3 _ fun u G4 H4 s4 r4 => ?_⟩
  have m4 := m3.step s4
  have hp4 : H4 p = some (.lst vs) := s4.h p _ hp (fun _ z => by cases z)
  refine ⟨p, vs, _, k1, rfl, r4, hp4, Evl.ixN_nat (by omega), w, [], rfl, ?_⟩
  have m5 := m4.upd (O' := oL R) (y := xs.set k1 x) hF pl_lst hv ⟨p, vs.set k1 v, rfl, rfl, by rw [List.length_set]; omega, All2.set (R.mono s4.g rv) k1 (hall.imp fun _ _ => R.mono s4.g)⟩
  have hi : i < es.length := (List.getElem?_eq_some_iff.mp hx).1
  have hx5 : (es.set i (Cell.own (oL R) (xs.set k1 x)))[i]? = some (.own (oL R) (xs.set k1 x)) := List.getElem?_set_self hi
  obtain ⟨p', vs', hv', hF', hp', hl', hall'⟩ := m5.list hx5
  rw [hv] at hv'
  cases hv'
  have hlen' : vs'.length = xs.length := by rw [hall'.length, List.length_set]
  refine ⟨_, hv, h2 G0 H0 _ _ σ _ m5 _ fun u2 G6 H6 s6 r6 => ⟨p, vs', _, k2, rfl, r6, s6.h p _ hp' (fun _ z => by cases z), Evl.ixN_nat (by omega), rfl, ?_⟩⟩
  have m6 := (m5.step s6).upd (O' := oL R) (y := (xs.set k1 x).set k2 y) hF' pl_lst hv ⟨p, vs'.set k2 w, rfl, rfl, by rw [List.length_set]; omega, All2.set (R.mono s6.g (R.mono s4.g rw')) k2 (hall'.imp fun _ _ => R.mono s6.g)⟩
  rw [List.set_set] at m6
  exact c _ _ _ _ m6
end
end AO
set_option Elab.async false
set_option linter.all false
set_option maxRecDepth 100000
set_option maxHeartbeats 4000000
/-! AON1: numbers of what is picked, ordered, parted, turned: walked. -/
namespace AO
open PySem L2
section
variable {T : List (Addr × Str)} {G0 H0 : Hp} {es : List Cell} {ta tb : TE} {K : PySem.W.Frag}
theorem dl_few : ∃ n, n ≤ 50 ∧ ∀ x : List Nat, (dL x).depth ≤ n := ⟨1, by omega, fun x => by
  have := depth_all (d := fun i : Nat => PyData.int (i : Int)) (n := 0) (fun x => by simp [PyData.depth]) x
  simp only [PyData.depth]
  omega⟩
theorem ev_inLL {x : List Nat} {xs : List (List Nat)} (h : EvE T (rL rN) ta es x) (h2 : EvE T (rL (rL rN)) tb es xs) : EvE T rB (tOp (rInD K) ta tb) es (decide (x ∈ xs)) := ev_is (ev_inD dt_LN dl_few h h2) (decide_eq_decide.mpr Iff.rfl)
theorem ev_notInLL {x : List Nat} {xs : List (List Nat)} (h : EvE T (rL rN) ta es x) (h2 : EvE T (rL (rL rN)) tb es xs) : EvE T rB (tOp (rNotInD K) ta tb) es (!decide (x ∈ xs)) := ev_is (ev_notInD dt_LN dl_few h h2) (congrArg (!·) (decide_eq_decide.mpr Iff.rfl))
/-- x in a list of numbers -/
theorem ev_inL {x : Int} {xs : List Int} (h : EvE T rI ta es x) (h2 : EvE T (rL rI) tb es xs) : EvE T rB (tOp (rIn K false) ta tb) es (decide (x ∈ xs)) := ev_op h h2 fun G H v w Q m rv rw' q => by
  obtain ⟨a, vs, rfl, hs, hl, ha⟩ := rw'
  obtain rfl : v = .int x := rv
  obtain ⟨e1, e2⟩ := inV_int x ha
  exact ⟨a, vs, rfl, .inl (Evl.sq_of (m.ex _ _ hs)), rfl, e2, q _ G H (Step.refl m) (by show V.bl _ = V.bl _; rw [← e1]; rfl)⟩
theorem ev_inLN {x : Nat} {xs : List Nat} (h : EvE T rN ta es x) (h2 : EvE T (rL rN) tb es xs) : EvE T rB (tOp (rIn K false) ta tb) es (decide (x ∈ xs)) := by
  have hs : Sub (rL rN) xs (rL rI) (upI xs) := fun G v ⟨a, vs, e, hs, hl, ha⟩ => ⟨a, vs, e, hs, hl, by
    rw [vals_nat ha]
    exact of_int _⟩
  refine ev_is (ev_inL (ev_NI h) (ev_sub h2 hs)) ?_
  by_cases e : x ∈ xs
  · rw [decide_eq_true e, decide_eq_true (List.mem_map.mpr ⟨x, e, rfl⟩)]
  · rw [decide_eq_false e, decide_eq_false]
    intro z
    obtain ⟨n, hn, e2⟩ := List.mem_map.mp z
    have : n = x := by omega
    subst this
    exact e hn
end
section
variable {P : Program} {w : World} {K : PySem.W.Frag} {mg : Str → Option Value} {base : Heap} {T : List (Addr × Str)}
abbrev spNumP (T : List (Addr × Str)) : Sp := spE T (fun i : List (List Nat) × List (List Nat) => [.val rRs i.1, .val rRs i.2]) (fun i => i.1.length ≤ 64 ∧ i.1.Nodup ∧ i.2.Sublist i.1) rN fun i => numP i.1 i.2 i.2.length
abbrev spNumO (T : List (Addr × Str)) : Sp := spE T (fun i : List (List Nat) × List (List Nat) => [.val rRs i.1, .val rRs i.2]) (fun i => i.1.length ≤ 64 ∧ i.1.Nodup ∧ i.2.Perm i.1) rN fun i => numO i.1 i.2 1
structure OkTurn (i : List (List Nat) × List Nat × Nat) : Prop where
  few : i.1.length ≤ 64
  inn : i.2.1 ∈ i.1
  far : i.2.2 < i.2.1.length
  small : i.2.1.length ≤ 64
  nd : i.2.1.Nodup
  min : ∀ x ∈ i.2.1, i.2.1.getD 0 0 ≤ x
  ne : ∀ r ∈ i.1, 0 < r.length
  one : i.1.filter (fun x => decide (x.getD 0 0 = i.2.1.getD 0 0)) = [i.2.1]
abbrev spTurnOf (T : List (Addr × Str)) : Sp := spE T (fun i : List (List Nat) × List Nat × Nat => [.val rRs i.1, .val (rL rN) (rotP i.2)]) OkTurn (rP (rL rN) rN) fun i => i.2
structure OkPart (r : List Nat) (t : Nat) : Prop where
  pos : 0 < r.length
  few : r.length ≤ 64
  nd : r.Nodup
  min : ∀ x ∈ r, r.getD 0 0 ≤ x
  t0 : 0 < t
  t1 : t < 2 ^ 4000
abbrev spParted (T : List (Addr × Str)) : Sp := spO T (fun i : List Nat × List Nat × Nat => [.val (rL rN) i.1, .val (rL rN) i.2.1, .val rN i.2.2]) (fun i => OkPart i.2.1 i.2.2) (oL (rL rN)) fun i => partedF i.2.2 i.2.1
theorem sc_number_picked : FnScope ["some", "found", "number", "size", "at", "one"] ["some", "found"] (defScope s_number_picked) := ⟨rfl, rfl, rfl, by decide +kernel, rfl, by decide +kernel, by decide +kernel⟩
theorem ok_number_picked {f : Addr} {fd : FuncData} (Df : Def K mg "number_picked" s_number_picked ["some", "found"] f fd) (B : Bn mg) (h_picks : Pr P w K mg base CX0 1 "picks" ["many", "some"] (spPicks T)) :
    Pr P w K mg base CX0 (1 + 1) "number_picked" ["some", "found"] (spNumP T) := by
  refine fn_E Df sc_number_picked (fun _ => rfl) fun cdv A outer s H E hr => ⟨_, (pss_cons (ps_set (i := 2) sc_number_picked.nd rfl (.inl rfl) pe_int)
    (pss_cons (ps_set (i := 3) sc_number_picked.nd rfl (.inl rfl) (pe_callB call_len_seq (by rfl) B.len PySem.boot_len (pa_cons (pv 1) pa_nil)))
    (pss_cons (ps_for PassesOwn.never rfl (pi_enum (by rfl) B.enumerate (pa_cons (pv 0) pa_nil)) (pg_tup rfl (pgs_cons (pg_name (i := 4) sc_number_picked.nd rfl (.inl rfl)) (pgs_cons (pg_name (i := 5) sc_number_picked.nd rfl (.inl rfl)) pgs_nil))) (pss_one (ps_if (pt_cmpR (op_inD (un_lt65 hr)) (pv 5) (pv 1) (by rfl)) (pss_one (ps_aug (i := 3) sc_number_picked.nd rfl (.inl rfl) pe_int ip_sub)) (pss_one (ps_if (pt_cmpR op_gt (pv 3) pe_int (nomark _)) (pss_one (ps_aug (i := 2) sc_number_picked.nd rfl (.inl rfl) (pe_pr h_picks (hr.mono (by decide)) (pa_cons (pe_op op_sub (pe_op op_sub (pe_callB call_len_seq (by rfl) B.len PySem.boot_len (pa_cons (pv 0) pa_nil)) (pv 4)) pe_int) (pa_cons (pe_op op_sub (pv 3) pe_int) pa_nil))) ip_add)) (pss_nil))))))
    (pss_one (ps_ret (pv 2)))))), fun i G0 H0 D hp hq hn => ?_⟩
  obtain ⟨xs, fd⟩ := i
  obtain ⟨h1, h2, h3⟩ := hp
  dsimp only at h1 h2 h3 hq ⊢
  refine go_seq (go_asg (ev_k (n := 0) rfl) (to_go ?_))
  refine go_seq (go_asg (ev_len (ev_var (i := 1) rfl)) (to_go ?_))
  refine go_seq (go_forS (xs := enumL xs) [4, 5] (fun s : Nat × Nat => [.val rRs xs, .val rRs fd, .val rN s.1, .val rN s.2, .no, .no])
    (fun i s => s.1 + numP (xs.drop i) fd s.2 = numP xs fd fd.length ∧ s.2 = ((xs.drop i).filter fun x => decide (x ∈ fd)).length) (0, fd.length) (evi_enum (ev_var (i := 0) rfl)) Wk.refl ⟨by simp, by rw [List.drop_zero, filter_sub1 xs fd h2 h3]⟩ (fun G1 sh i p s hx ps => ?_) fun s ps => ?_)
  · obtain ⟨n, r⟩ := s
    obtain ⟨p1, p2⟩ := ps
    dsimp only at p1 p2
    obtain ⟨e1, e2⟩ := enumL_get hx
    have hil := (List.getElem?_eq_some_iff.mp e2).1
    have hdr : xs.drop i = p.2 :: xs.drop (i + 1) := by
      rw [List.drop_eq_getElem_cons hil]
      congr 1
      rw [List.getElem?_eq_getElem hil] at e2
      exact Option.some.inj e2
    have hr64 : r ≤ 64 := by
      rw [p2]
      refine Nat.le_trans (List.length_filter_le _ _) ?_
      rw [List.length_drop]
      omega
    rw [hdr] at p1 p2
    rw [List.filter_cons] at p2
    simp only [numP] at p1
    refine ⟨_, tg_tup (R := rN) (S := rL rN) tg_name tg_name, ?_⟩
    refine go_if (b := decide (p.2 ∈ fd)) (eb_test (ev_inLL (ev_var (i := 5) rfl) (ev_var (i := 1) rfl))) (fun hb => ?_) fun hb => ?_
    · have hb := of_decide_eq_true hb
      rw [if_pos hb] at p1
      simp only [hb, decide_true, if_true, List.length_cons] at p2
      refine go_augN (i := 3) (c := r - 1) rfl (ev_k (n := 1) rfl) (by omega) (to_S (n, r - 1) ⟨p1, by dsimp only; omega⟩ (.keep (.keep (.keep (.keep (.drop (.drop .nil)))))))
    · have hb := of_decide_eq_false hb
      rw [if_neg hb] at p1
      simp only [hb, decide_false, Bool.false_eq_true, if_false] at p2
      refine go_if (b := decide (0 < r)) (eb_test (ev_gtN (ev_var (i := 3) rfl) (ev_k (n := 0) rfl))) (fun hb2 => ?_) fun hb2 => ?_
      · have hb2 := of_decide_eq_true hb2
        rw [if_pos hb2, List.length_drop] at p1
        have hbin : binom (xs.length - p.1 - 1) (r - 1) = binom (xs.length - (i + 1)) (r - 1) := by
          congr 1
          omega
        refine go_augN (i := 2) (c := n + binom (xs.length - (i + 1)) (r - 1)) rfl (ev_is (ev_call (xs.length - p.1 - 1, r - 1) (ea_cons (ev_subN (ev_subN (ev_len (ev_var (i := 0) rfl)) (ev_var (i := 4) rfl) (by omega)) (ev_k (n := 1) rfl) (by omega)) (ea_cons (ev_subN (ev_var (i := 3) rfl) (ev_k (n := 1) rfl) (by omega)) ea_nil)) (And.intro (show xs.length - p.1 - 1 ≤ 64 by omega) (show r - 1 ≤ 64 by omega))) hbin) (by simp) (to_S (n + binom (xs.length - (i + 1)) (r - 1), r) ⟨by dsimp only; omega, p2⟩ (.keep (.keep (.keep (.keep (.drop (.drop .nil)))))))
      · rw [if_neg (of_decide_eq_false hb2)] at p1
        exact go_next (to_S (n, r) ⟨by dsimp only; omega, p2⟩ (.keep (.keep (.keep (.keep (.drop (.drop .nil)))))))
  · obtain ⟨n, r⟩ := s
    obtain ⟨p1, p2⟩ := ps
    dsimp only at p1
    have hl : (enumL xs).length = xs.length := enumL_length
    rw [hl, List.drop_length] at p1
    refine to_go (go_ret (ev_var (i := 2) rfl) fun v G H st rr => hq v G H st ?_)
    have : n = numP xs fd fd.length := by
      simp only [numP] at p1
      omega
    rw [← this]
    exact rr
theorem sc_number_ordered : FnScope ["some", "found", "left", "number", "weight", "one"] ["some", "found"] (defScope s_number_ordered) := ⟨rfl, rfl, rfl, by decide +kernel, rfl, by decide +kernel, by decide +kernel⟩
theorem ok_number_ordered {f : Addr} {fd : FuncData} (Df : Def K mg "number_ordered" s_number_ordered ["some", "found"] f fd) (B : Bn mg) :
    Pr P w K mg base CX0 (0 + 1) "number_ordered" ["some", "found"] (spNumO T) := by
  refine fn_E Df sc_number_ordered (fun _ => rfl) fun cdv A outer s H E hr => ⟨_, (pss_cons (ps_set (i := 2) sc_number_ordered.nd rfl (.inl rfl) (pe_callTy call_list_of (by rfl) B.list PyProof.Rows.boot_list (pa_cons (pv 0) pa_nil)))
    (pss_cons (ps_set (i := 3) sc_number_ordered.nd rfl (.inl rfl) pe_int)
    (pss_cons (ps_set (i := 4) sc_number_ordered.nd rfl (.inl rfl) pe_int)
    (pss_cons (ps_for PassesOwn.never rfl (pi_list (pv 1)) (pg_name (i := 5) sc_number_ordered.nd rfl (.inl rfl)) (pss_cons (ps_aug (i := 3) sc_number_ordered.nd rfl (.inl rfl) (pe_op op_mulB (pe_bm PySem.F.plainAttrs_list PySem.F.slot_list_index PySem.F.type_list_index (mt_indexD (un_lt65 hr)) (pv 2) (pa_cons (pv 5) pa_nil)) (pv 4)) ip_add)
    (pss_cons (ps_aug (i := 4) sc_number_ordered.nd rfl (.inl rfl) (pe_callB call_len_seq (by rfl) B.len PySem.boot_len (pa_cons (pv 2) pa_nil)) ip_mulB)
    (pss_one (ps_expr (pe_bm PySem.F.plainAttrs_list PySem.F.slot_list_remove PySem.F.type_list_remove (mt_removeD (un_lt65 hr)) (pv 2) (pa_cons (pv 5) pa_nil)))))))
    (pss_one (ps_ret (pv 3))))))), fun i G0 H0 D hp hq hn => ?_⟩
  obtain ⟨xs, ys⟩ := i
  obtain ⟨h1, h2, h3⟩ := hp
  dsimp only at h1 h2 h3 hq ⊢
  have hyl := h3.length_eq
  refine go_seq (go_asgO (eo_list (ev_var (i := 0) rfl)) (to_go ?_))
  refine go_seq (go_asg (ev_k (n := 0) rfl) (to_go ?_))
  refine go_seq (go_asg (ev_k (n := 1) rfl) (to_go ?_))
  refine go_seq (go_forS (xs := ys) [5] (fun s : List (List Nat) × Nat × Nat => [.val rRs xs, .val rRs ys, .own (oL (rL rN)) s.1, .val rN s.2.1, .val rN s.2.2, .no])
    (fun i s => s.2.1 + numO s.1 (ys.drop i) s.2.2 = numO xs ys 1 ∧ s.1.Perm (ys.drop i) ∧ s.1.Nodup ∧ s.2.2 ≤ 64 ^ i) (xs, 0, 1) (evi_list (ev_var (i := 1) rfl)) Wk.refl ⟨by simp, by rw [List.drop_zero]; exact h3.symm, h2, by simp⟩ (fun G1 sh i y s hx ps => ?_) fun s ps => ?_)
  · obtain ⟨left, n, wt⟩ := s
    obtain ⟨p1, p2, p3, p4⟩ := ps
    dsimp only at p1 p2 p3 p4
    have hil := (List.getElem?_eq_some_iff.mp hx).1
    have hdr : ys.drop i = y :: ys.drop (i + 1) := by
      rw [List.drop_eq_getElem_cons hil]
      congr 1
      rw [List.getElem?_eq_getElem hil] at hx
      exact Option.some.inj hx
    rw [hdr] at p1 p2
    simp only [numO] at p1
    have hm : y ∈ left := p2.mem_iff.mpr (List.mem_cons_self ..)
    have hll : left.length ≤ 64 := by
      rw [p2.length_eq, ← hdr, List.length_drop]
      omega
    have hw : wt < 2 ^ 400 := by
      refine Nat.lt_of_le_of_lt p4 (Nat.lt_of_le_of_lt (Nat.pow_le_pow_right (by omega) (show i ≤ 64 by omega)) ?_)
      rw [show (64 : Nat) ^ 64 = (2 ^ 6) ^ 64 from rfl, ← Nat.pow_mul]
      exact Nat.pow_lt_pow_right (by omega) (by omega)
    have hidx : left.idxOf y < left.length := List.idxOf_lt_length_of_mem hm
    refine ⟨_, tg_name, ?_⟩
    refine go_seq (go_augN (i := 3) (c := n + left.idxOf y * wt) rfl (ev_loan (i := 2) rfl frz_L flat_N (ev_mulN (ev_indexD (ev_var (i := 2) rfl) (ev_var (i := 5) rfl) hm) (ev_var (i := 4) rfl) (mulok_nat (show left.idxOf y < 2 ^ 10 by omega) hw (by omega) (by omega) (by omega)))) (by simp) (to_go ?_))
    refine go_seq (go_augMulN (i := 4) rfl (ev_lenO (i := 2) rfl) (mulok_nat hw (show left.length < 2 ^ 10 by omega) (by omega) (by omega) (by omega)) (to_go ?_))
    refine go_remLL (i := 2) rfl hm (ev_var (i := 5) rfl) (to_S (left.erase y, n + left.idxOf y * wt, wt * left.length) ⟨by dsimp only; omega, ?_, p3.erase y, ?_⟩ (.keep (.keep (.keep (.keep (.keep (.drop .nil)))))))
    · have := p2.erase y
      rwa [List.erase_cons_head] at this
    · dsimp only
      rw [Nat.pow_succ]
      exact Nat.mul_le_mul p4 hll
  · obtain ⟨left, n, wt⟩ := s
    obtain ⟨p1, _, _, _⟩ := ps
    dsimp only at p1
    rw [List.drop_length] at p1
    refine to_go (go_ret (ev_var (i := 3) rfl) fun v G H st rr => hq v G H st ?_)
    have : n = numO xs ys 1 := by
      simp only [numO] at p1
      omega
    rw [← this]
    exact rr
theorem sc_turn_of : FnScope ["rings", "one", "least", "ring"] ["rings", "one"] (defScope s_turn_of) := ⟨rfl, rfl, rfl, by decide +kernel, rfl, by decide +kernel, by decide +kernel⟩
theorem ok_turn_of {f : Addr} {fd : FuncData} (Df : Def K mg "turn_of" s_turn_of ["rings", "one"] f fd) (B : Bn mg) :
    Pr P w K mg base CX0 (0 + 1) "turn_of" ["rings", "one"] (spTurnOf T) := by
  refine fn_E Df sc_turn_of (fun _ => rfl) fun cdv A outer s H E hr => ⟨_, (pss_cons (ps_set (i := 2) sc_turn_of.nd rfl (.inr rfl) (pe_callB (cr_min rfl) (by rfl) B.min (by decide +kernel) (pa_cons (pv 1) pa_nil)))
    (pss_cons (ps_set (i := 3) sc_turn_of.nd rfl (.inl rfl) (pe_ix ix_list (pe_lc (g := (gName 3)) (tt := (tTest (tOp rEq (tOp (rIxL K) (tVar 3) (tC (.int 0))) (tVar 2)))) (te := (tVar 3)) (own := [("ring", 3)]) rfl sc_turn_of.nd (pi_list (pv 0)) (blkOk_by (N := ["rings", "one", "least", "ring"]) (sc := defScope s_turn_of) (by decide +kernel)) (fun _ _ _ _ _ => (pg_name (i := 3) sc_turn_of.nd rfl (.inl rfl) (.inr rfl))) (fun _ _ _ _ _ => (pts_one (pt_cmpR op_eq (pe_ix ix_list (pv 3) pe_int (fun _ _ => rfl)) (pv 2) (nomark _)))) (fun _ _ _ _ _ => (pv 3))) pe_int (fun _ _ => rfl)))
    (pss_one (ps_ret (pe_tup (pa_cons (pv 3) (pa_cons (pe_bm PySem.F.plainAttrs_list PySem.F.slot_list_index PySem.F.type_list_index mt_index (pv 3) (pa_cons (pe_ix ix_list (pv 1) pe_int (fun _ _ => rfl)) pa_nil)) pa_nil))))))), fun i G0 H0 D hp hq hn => ?_⟩
  obtain ⟨pk, r, d⟩ := i
  have hO := hp
  dsimp only at hq ⊢
  have hfar : d < r.length := hO.far
  have hl1 : 0 < (rotP (r, d)).length := by
    unfold rotP
    rw [rot_len]
    show 0 < r.length
    omega
  have g : ∀ {l : List Nat}, 0 < l.length → l[0]? = some (l.getD 0 0) := fun {l} hk => by
    rw [List.getD_eq_getElem?_getD, List.getElem?_eq_getElem hk]
    rfl
  have h0 : r.getD 0 0 ∈ r := List.mem_of_getElem? (g (by omega))
  refine go_seq (go_asg (ev_minL (m := r.getD 0 0) (ev_var (i := 1) rfl) (rotP_mem.mpr h0) fun y hy => hO.min y (rotP_mem.mp hy)) (to_go ?_))
  refine go_seq (go_asg (ev_ixL (x := r) (ev_frz frz_L (eo_is (ev_lc (S := rL rN) (xs := pk) (evi_list (ev_var (i := 0) rfl)) (by have := hO.few; dsimp only at this; omega) (fun x => decide (x.getD 0 0 = r.getD 0 0)) (fun x => x) fun i x hx =>
    ⟨_, tg_name, eb_test (ev_eqN (ev_ixL (ev_var (i := 3) rfl) (ev_k (n := 0) rfl) (g (hO.ne x (List.mem_of_getElem? hx)))) (ev_var (i := 2) rfl)), fun _ => ev_var (i := 3) rfl⟩) (show _ = [r] by rw [List.map_id', hO.one]))) (ev_k (n := 0) rfl) rfl) (to_go ?_))
  have hh := rot_head (r := r) (d := d) hfar
  exact go_ret (ev_tup2 (ev_var (i := 3) rfl) (ev_indexN (ev_var (i := 3) rfl) (ev_ixL (ev_var (i := 1) rfl) (ev_k (n := 0) rfl) hh) (List.getElem?_eq_getElem hfar) hO.nd)) hq
theorem sc_parted : FnScope ["order", "ring", "times", "least", "at", "length", "found", "begin", "turn"] ["order", "ring", "times"] (defScope s_parted) := ⟨rfl, rfl, rfl, by decide +kernel, rfl, by decide +kernel, by decide +kernel⟩
theorem ok_parted {f : Addr} {fd : FuncData} (Df : Def K mg "parted" s_parted ["order", "ring", "times"] f fd) (B : Bn mg) (h_common : Pr P w K mg base CX0 1 "common" ["one", "other"] (spCommon T)) :
    Pr P w K mg base CX0 (1 + 1) "parted" ["order", "ring", "times"] (spParted T) := by
  refine fn_O Df sc_parted (fun _ => rfl) fun cdv A outer s H E hr => ⟨_, (pss_cons (ps_set (i := 3) sc_parted.nd rfl (.inl rfl) (pe_callB (cr_min rfl) (by rfl) B.min (by decide +kernel) (pa_cons (pv 1) pa_nil)))
    (pss_cons (ps_set (i := 4) sc_parted.nd rfl (.inl rfl) (pe_bm PySem.F.plainAttrs_list PySem.F.slot_list_index PySem.F.type_list_index mt_index (pv 1) (pa_cons (pv 3) pa_nil)))
    (pss_cons (ps_set (i := 1) sc_parted.nd rfl (.inr rfl) (pe_op op_cat (pe_slice sl_list (pv 1) (po_some (pv 4)) po_none) (pe_slice sl_list (pv 1) po_none (po_some (pv 4)))))
    (pss_cons (ps_set (i := 5) sc_parted.nd rfl (.inl rfl) (pe_op op_fdivW (pe_callB call_len_seq (by rfl) B.len PySem.boot_len (pa_cons (pv 1) pa_nil)) (pe_pr h_common (hr.mono (by decide)) (pa_cons (pv 2) (pa_cons (pe_callB call_len_seq (by rfl) B.len PySem.boot_len (pa_cons (pv 1) pa_nil)) pa_nil)))))
    (pss_cons (ps_set (i := 6) sc_parted.nd rfl (.inl rfl) (pe_lst pa_nil))
    (pss_cons (ps_for PassesOwn.never rfl (pi_range1 (by rfl) B.range (pa_cons (pe_op op_fdivW (pe_callB call_len_seq (by rfl) B.len PySem.boot_len (pa_cons (pv 1) pa_nil)) (pv 5)) pa_nil)) (pg_name (i := 7) sc_parted.nd rfl (.inr rfl)) (pss_one (ps_expr (pe_bm PySem.F.plainAttrs_list PySem.F.slot_list_append PySem.F.type_list_append mt_append (pv 6) (pa_cons (pe_lc (g := (gName 8)) (tt := tYes) (te := (tOp (rIxL K) (tVar 1) (tOp (L2.rI (fun _ j => 0 < j) fun i j => .int (i % j)) (tOp (rI0 fun i j => .int (i + j)) (tVar 7) (tOp (L2.rI IntMulOk fun i j => .int (i * j)) (tVar 8) (tVar 2))) (tCB (rLn K) (tCons (tVar 1) tNil))))) (own := [("turn", 8)]) rfl sc_parted.nd (pi_range1 (by rfl) B.range (pa_cons (pv 5) pa_nil)) (blkOk_by (N := ["order", "ring", "times", "least", "at", "length", "found", "begin", "turn"]) (sc := defScope s_parted) (by decide +kernel)) (fun _ _ _ _ _ => (pg_name (i := 8) sc_parted.nd rfl (.inl rfl) (.inr rfl))) (fun _ _ _ _ _ => pts_nil) (fun _ _ _ _ _ => (pe_ix ix_list (pv 1) (pe_op op_mod (pe_op op_add (pv 7) (pe_op op_mulB (pv 8) (pv 2))) (pe_callB call_len_seq (by rfl) B.len PySem.boot_len (pa_cons (pv 1) pa_nil))) (fun _ _ => rfl)))) pa_nil)))))
    (pss_one (ps_ret (pv 6))))))))), fun i G0 H0 D hp hq hn => ?_⟩
  obtain ⟨σ, r, t⟩ := i
  have hO := hp
  dsimp only at hq hO ⊢
  have hp1 := hO.pos
  have hp2 := hO.few
  have g0 : r[0]? = some (r.getD 0 0) := by
    rw [List.getD_eq_getElem?_getD, List.getElem?_eq_getElem hp1]
    rfl
  have hg : 0 < Nat.gcd t r.length := Nat.gcd_pos_of_pos_right _ hp1
  have hgl : Nat.gcd t r.length ≤ r.length := Nat.le_of_dvd hp1 (Nat.gcd_dvd_right _ _)
  refine go_seq (go_asg (ev_minL (m := r.getD 0 0) (ev_var (i := 1) rfl) (List.mem_of_getElem? g0) hO.min) (to_go ?_))
  refine go_seq (go_asg (ev_indexN (j := 0) (ev_var (i := 1) rfl) (ev_var (i := 3) rfl) g0 hO.nd) (to_go ?_))
  refine go_seq (go_asg (ev_is (x2 := r) (ev_frz frz_L (eo_cat (ev_frz frz_L (eo_slice (ev_var (i := 1) rfl) (po_so (ev_var (i := 4) rfl)) po_no)) (ev_frz frz_L (eo_slice (ev_var (i := 1) rfl) po_no (po_so (ev_var (i := 4) rfl)))) (by simp [cutN]; omega))) (by simp [cutN])) (to_go ?_))
  generalize hl : r.length / Nat.gcd t r.length = l
  have hlp : 0 < l := by
    rw [← hl]
    exact Nat.div_pos hgl hg
  have hl64 : l ≤ 64 := by
    rw [← hl]
    exact Nat.le_trans (Nat.div_le_self _ _) hp2
  refine go_seq (go_asg (ev_is (ev_divN (ev_len (ev_var (i := 1) rfl)) (ev_call (t, r.length) (ea_cons (ev_var (i := 2) rfl) (ea_cons (ev_len (ev_var (i := 1) rfl)) ea_nil)) trivial) (by dsimp only; exact hg) (log_lt (show Nat.gcd t r.length < 2 ^ 10 by omega) (by omega))) hl) (to_go ?_))
  refine go_seq (go_asgO (eo_lst0 (R := rL rN)) (to_go ?_))
  have hb64 : r.length / l ≤ 64 := Nat.le_trans (Nat.div_le_self _ _) hp2
  refine go_seq (go_forS (xs := List.range (r.length / l)) [7] (fun s : List (List Nat) => [.val (rL rN) σ, .val (rL rN) r, .val rN t, .val rN (r.getD 0 0), .val rN 0, .val rN l, .own (oL (rL rN)) s, .no, .no])
    (fun i s => s = ((List.range (r.length / l)).take i).map fun b => (List.range l).map fun j => r.getD ((b + j * t) % r.length) 0) [] (evi_rng1 (ev_divN (ev_len (ev_var (i := 1) rfl)) (ev_var (i := 5) rfl) hlp (log_lt (show l < 2 ^ 10 by omega) (by omega))) (by omega)) Wk.refl rfl (fun G1 sh i b s hx ps => ?_) fun s ps => ?_)
  · have hil := (List.getElem?_eq_some_iff.mp hx).1
    rw [List.length_range] at hil
    have hbl : b < 64 := by
      have := List.mem_range.mp (List.mem_of_getElem? hx)
      omega
    refine ⟨_, tg_name, ?_⟩
    refine go_app (i := 6) (x := (List.range l).map fun j => r.getD ((b + j * t) % r.length) 0) rfl (by rw [ps, List.length_map, List.length_take, List.length_range]; omega) (ev_frz frz_L (eo_is (ev_lc (S := rN) (xs := List.range l) (evi_rng1 (ev_var (i := 5) rfl) (by omega)) (by simp; omega) (fun _ => true) (fun j => r.getD ((b + j * t) % r.length) 0) fun i j hj =>
      ⟨_, tg_name, eb_yes, fun _ => ?_⟩) (map_all _ _))) (to_S (s ++ [(List.range l).map fun j => r.getD ((b + j * t) % r.length) 0]) ?_ (.keep (.keep (.keep (.keep (.keep (.keep (.keep (.drop (.keep .nil))))))))))
    · have hjl : j < 64 := by
        have := List.mem_range.mp (List.mem_of_getElem? hj)
        omega
      have hm : (b + j * t) % r.length < r.length := Nat.mod_lt _ hp1
      exact ev_ixL (ev_var (i := 1) rfl) (ev_modN (ev_addN (ev_var (i := 7) rfl) (ev_mulN (ev_var (i := 8) rfl) (ev_var (i := 2) rfl) (mulok_nat (show j < 2 ^ 10 by omega) hO.t1 (by omega) (by omega) (by omega)))) (ev_len (ev_var (i := 1) rfl)) hp1) (by rw [List.getD_eq_getElem?_getD, List.getElem?_eq_getElem hm]; rfl)
    · rw [List.take_add_one, hx, ps, List.map_append]
      rfl
  · refine to_go (go_retV (i := 6) (x := s) rfl fun v G H F st fr rr => hq v G H F st fr ?_)
    have : s = partedF t r := by
      rw [ps, List.take_of_length_le (Nat.le_refl _)]
      unfold partedF
      rw [hl]
    rw [← this]
    exact rr
end
end AO
set_option Elab.async false
set_option linter.all false
set_option maxRecDepth 100000
set_option maxHeartbeats 8000000
/-! AON2: the number within a length, walked. -/
namespace AO
open PySem L2
theorem take_filter_sum {bl : Nat → Nat} {p : Nat → Bool} {gs : List Nat} {i x : Nat} (h : gs[i]? = some x) : (((gs.take (i + 1)).filter p).map bl).sum = (((gs.take i).filter p).map bl).sum + if p x = true then bl x else 0 := by
  rw [List.take_add_one, h, List.filter_append, List.map_append, List.sum_append]
  congr 1
  show (((([x] : List Nat)).filter p).map bl).sum = _
  rw [List.filter_cons]
  by_cases e : p x = true
  · rw [if_pos e, if_pos e]
    simp
  · rw [if_neg e, if_neg e]
    rfl
theorem rotP_nil_pos {l : Nat} {r : List Nat} {d : Nat} (h : r.length = l) : (rotP (r, d)).length = l := by
  unfold rotP
  rw [rot_len]
  exact h
/-- a kind by another -/
def rPull {α β : Type} (R : Rep β) (f : α → β) : Rep α := ⟨fun G v a => R.r G v (f a), fun e h => R.mono e h⟩
theorem all2_pull {α β : Type} {R : Rep β} {f : α → β} {G : Hp} : ∀ {vs : List V} {xs : List α}, All2 (R.r G) vs (xs.map f) → All2 ((rPull R f).r G) vs xs
  | _, [], h => by
    cases h
    exact .nil
  | _, _ :: _, h => by
    cases h with
    | cons h t => exact .cons h (all2_pull t)
theorem sub_pull {α β : Type} {R : Rep β} {f : α → β} {xs : List α} : Sub (rL R) (xs.map f) (rL (rPull R f)) xs := fun G v ⟨a, vs, e, hs, hl, ha⟩ => ⟨a, vs, e, hs, hl, all2_pull ha⟩
theorem sub_push {α β : Type} {R : Rep β} {f : α → β} {x : α} : Sub (rPull R f) x R (f x) := fun G v h => h
abbrev rRot : Rep (List Nat × Nat) := rPull (rL rN) rotP
theorem rotP_zero (r : List Nat) : rotP (r, 0) = r := by simp [rotP]
theorem enum_zip_sum (l : Nat) (o : List (List Nat)) (ds : List Nat) (h : o.length = ds.length) : ((enumL (o.zip ds)).map fun p => p.2.2 * l ^ p.1).sum = sumD l ds 0 := by
  rw [← sum_enum l ds 0]
  congr 1
  unfold enumL
  rw [List.length_zip, h, Nat.min_self, List.range_eq_range']
  have key : ∀ (a : Nat) (o : List (List Nat)) (ds : List Nat), o.length = ds.length → (((List.range' a ds.length).zip (o.zip ds)).map fun p => p.2.2 * l ^ p.1) = ((List.range' a ds.length).zip ds).map fun p => p.2 * l ^ p.1 := by
    intro a o ds
    induction ds generalizing a o with
    | nil => intro _; simp
    | cons d ds ih =>
      intro h
      cases o with
      | nil => simp at h
      | cons r o =>
        rw [List.length_cons, List.range'_succ]
        simp only [List.zip_cons_cons, List.map_cons]
        rw [ih (a + 1) o (by simpa using h)]
  exact key 0 o ds h
structure OkW (i : Nat × Nat × List (List Nat) × List Nat × Nat) : Prop where
  l0 : 0 < i.1
  l1 : i.1 ≤ 64
  t0 : 0 < i.2.1
  t1 : i.2.1 < 2 ^ 4000
  few : i.2.2.1.length ≤ 64
  ok : OkN i.1 i.2.2.1
  here : i.2.2.2.2 < wayN i.1 i.2.1 i.2.2.1.length
  home : Home i.2.2.2.1 i.1 i.2.1 i.2.2.1.length i.2.2.1 i.2.2.2.2
section
variable {P : Program} {w : World} {K : PySem.W.Frag} {mg : Str → Option Value} {base : Heap} {T : List (Addr × Str)}
abbrev spWithin (T : List (Addr × Str)) : Sp := spE T (fun i : Nat × Nat × List (List Nat) × List Nat × Nat => [.val rN i.1, .val rN i.2.1, .val rRs i.2.2.1, .val (rL rN) (wayL i.1 i.2.1 i.2.2.1.length), .val (rD rRs) (homesF i.2.2.2.1 i.2.1)]) OkW rN fun i => i.2.2.2.2
theorem sc_number_within : FnScope ["length", "times", "rings", "ways", "homes", "found", "left", "some", "size", "less", "others", "turned", "weave", "mine", "ring", "one", "turn", "at"] ["length", "times", "rings", "ways", "homes"] (defScope s_number_within) := ⟨rfl, rfl, rfl, by decide +kernel, rfl, by decide +kernel, by decide +kernel⟩
theorem ok_number_within {f : Addr} {fd : FuncData} (Df : Def K mg "number_within" s_number_within ["length", "times", "rings", "ways", "homes"] f fd) (B : Bn mg) (h_groups_of : Pr P w K mg base CX0 2 "groups_of" ["length", "times", "many"] (spGroups T)) (h_begun_with : Pr P w K mg base CX0 3 "begun_with" ["length", "size", "many"] (spBegun T)) (h_weaves : Pr P w K mg base CX0 2 "weaves" ["length", "size"] (spWeaves T)) (h_power : Pr P w K mg base CX0 1 "power" ["number", "often"] (spPower T))
    (h_turn_of : Pr P w K mg base CX0 1 "turn_of" ["rings", "one"] (spTurnOf T)) (h_number_ordered : Pr P w K mg base CX0 1 "number_ordered" ["some", "found"] (spNumO T)) (h_number_picked : Pr P w K mg base CX0 2 "number_picked" ["some", "found"] (spNumP T)) :
    Pr P w K mg base CX0 (3 + 1) "number_within" ["length", "times", "rings", "ways", "homes"] (spWithin T) := by
  refine fn_E Df sc_number_within (fun _ => rfl) fun cdv A outer s H E hr => ⟨_, (pss_cons (ps_set (i := 5) sc_number_within.nd rfl (.inl rfl) pe_int)
    (pss_cons (ps_set (i := 6) sc_number_within.nd rfl (.inl rfl) (pv 2))
    (pss_cons (ps_while PassesOwn.never (pt_cmpR op_gt (pe_callB call_len_seq (by rfl) B.len PySem.boot_len (pa_cons (pv 6) pa_nil)) pe_int (nomark _)) (pss_cons (ps_set (i := 7) sc_number_within.nd rfl (.inr rfl) (pe_dget (un_lt hr) (pv 4) (pe_ix ix_list (pe_ix ix_list (pv 6) pe_int (fun _ _ => rfl)) pe_int (fun _ _ => rfl)) (fun _ _ => rfl)))
    (pss_cons (ps_set (i := 8) sc_number_within.nd rfl (.inl rfl) (pe_callB call_len_seq (by rfl) B.len PySem.boot_len (pa_cons (pv 7) pa_nil)))
    (pss_cons (ps_for PassesOwn.never rfl (pi_list (pe_pr h_groups_of (hr.mono (by decide)) (pa_cons (pv 0) (pa_cons (pv 1) (pa_cons (pe_callB call_len_seq (by rfl) B.len PySem.boot_len (pa_cons (pv 6) pa_nil)) pa_nil))))) (pg_name (i := 9) sc_number_within.nd rfl (.inl rfl)) (pss_one (ps_if (pt_cmpR op_lt (pv 9) (pv 8) (nomark _)) (pss_one (ps_aug (i := 5) sc_number_within.nd rfl (.inl rfl) (pe_op op_mulB (pe_pr h_begun_with (hr.mono (by decide)) (pa_cons (pv 0) (pa_cons (pv 9) (pa_cons (pe_callB call_len_seq (by rfl) B.len PySem.boot_len (pa_cons (pv 6) pa_nil)) pa_nil)))) (pe_ix ix_list (pv 3) (pe_op op_sub (pe_callB call_len_seq (by rfl) B.len PySem.boot_len (pa_cons (pv 6) pa_nil)) (pv 9)) (fun _ _ => rfl))) ip_add)) (pss_nil))))
    (pss_cons (ps_set (i := 10) sc_number_within.nd rfl (.inr rfl) (pe_lc (g := (gName 14)) (tt := (tTest (tOp (rIn K false) (tOp (rIxL K) (tVar 14) (tC (.int 0))) (tLc (iList K (tVar 7)) (gName 15) tYes (tCB (rMin K) (tCons (tVar 15) tNil)) [15])))) (te := (tVar 14)) (own := [("ring", 14)]) rfl sc_number_within.nd (pi_list (pe_slice sl_list (pv 6) (po_some pe_int) po_none)) (blkOk_by (N := ["length", "times", "rings", "ways", "homes", "found", "left", "some", "size", "less", "others", "turned", "weave", "mine", "ring", "one", "turn", "at"]) (sc := defScope s_number_within) (by decide +kernel)) (fun _ _ _ _ _ => (pg_name (i := 14) sc_number_within.nd rfl (.inl rfl) (.inr rfl))) (fun _ _ _ _ _ => (pts_one (pt_cmpR op_in_seq (pe_ix ix_list (pv 14) pe_int (fun _ _ => rfl)) (pe_lc (g := (gName 15)) (tt := tYes) (te := (tCB (rMin K) (tCons (tVar 15) tNil))) (own := [("one", 15)]) rfl sc_number_within.nd (pi_list (pv 7)) (blkOk_by (by rfl)) (fun _ _ _ _ _ => (pg_name (i := 15) sc_number_within.nd rfl (.inl rfl) (.inr rfl))) (fun _ _ _ _ _ => pts_nil) (fun _ _ _ _ _ => (pe_callB (cr_min rfl) (by rfl) B.min (by decide +kernel) (pa_cons (pv 15) pa_nil)))) (by rfl)))) (fun _ _ _ _ _ => (pv 14))))
    (pss_cons (ps_setLc (i := 11) (g := (gName 15)) (tt := tYes) (te := (tCall _ [] _ (tCons (tVar 10) (tCons (tVar 15) tNil)))) (own := [("one", 15)]) rfl sc_number_within.nd rfl rfl (sw_true rfl rfl rfl (by decide +kernel)) (pi_list (pe_slice sl_list (pv 7) (po_some pe_int) po_none)) (blkOk_by (N := ["length", "times", "rings", "ways", "homes", "found", "left", "some", "size", "less", "others", "turned", "weave", "mine", "ring", "one", "turn", "at"]) (sc := defScope s_number_within) (by decide +kernel)) (fun _ _ _ _ _ => (pg_name (i := 15) sc_number_within.nd rfl (.inl rfl) (.inr rfl))) (fun _ _ _ _ _ => pts_nil) (fun _ _ _ _ _ => (pe_pr h_turn_of (hr.mono (by decide)) (pa_cons (pv 10) (pa_cons (pv 15) pa_nil)))))
    (pss_cons (ps_set (i := 12) sc_number_within.nd rfl (.inl rfl) (pe_pr h_number_ordered (hr.mono (by decide)) (pa_cons (pv 10) (pa_cons (pe_lc (g := (gTup K 2 (gCons (gName 14) (gCons (gName 16) gNil)))) (tt := tYes) (te := (tVar 14)) (own := [("ring", 14), ("turn", 16)]) rfl sc_number_within.nd (pi_list (pv 11)) (blkOk_by (N := ["length", "times", "rings", "ways", "homes", "found", "left", "some", "size", "less", "others", "turned", "weave", "mine", "ring", "one", "turn", "at"]) (sc := defScope s_number_within) (by decide +kernel)) (fun _ _ _ _ _ => (pg_tup rfl (pgs_cons (pg_name (i := 14) sc_number_within.nd rfl (.inl rfl) (.inr rfl)) (pgs_cons (pg_name (i := 16) sc_number_within.nd rfl (.inl rfl) (.inr rfl)) pgs_nil)))) (fun _ _ _ _ _ => pts_nil) (fun _ _ _ _ _ => (pv 14))) pa_nil))))
    (pss_cons (ps_aug (i := 12) sc_number_within.nd rfl (.inl rfl) (pe_pr h_power (hr.mono (by decide)) (pa_cons (pv 0) (pa_cons (pe_op op_sub (pv 8) pe_int) pa_nil))) ip_mulB)
    (pss_cons (ps_aug (i := 12) sc_number_within.nd rfl (.inl rfl) (pe_callB (cr_sum rfl) (by rfl) B.sum (by decide +kernel) (pa_cons (pe_lc (g := (gTup K 2 (gCons (gName 17) (gCons (gTup K 2 (gCons (gName 14) (gCons (gName 16) gNil))) gNil)))) (tt := tYes) (te := (tOp (L2.rI IntMulOk fun i j => .int (i * j)) (tVar 16) (tCall _ [] _ (tCons (tVar 0) (tCons (tVar 17) tNil))))) (own := [("at", 17), ("ring", 14), ("turn", 16)]) rfl sc_number_within.nd (pi_enum (by rfl) B.enumerate (pa_cons (pv 11) pa_nil)) (blkOk_by (N := ["length", "times", "rings", "ways", "homes", "found", "left", "some", "size", "less", "others", "turned", "weave", "mine", "ring", "one", "turn", "at"]) (sc := defScope s_number_within) (by decide +kernel)) (fun _ _ _ _ _ => (pg_tup rfl (pgs_cons (pg_name (i := 17) sc_number_within.nd rfl (.inl rfl) (.inr rfl)) (pgs_cons (pg_tup rfl (pgs_cons (pg_name (i := 14) sc_number_within.nd rfl (.inl rfl) (.inr rfl)) (pgs_cons (pg_name (i := 16) sc_number_within.nd rfl (.inl rfl) (.inr rfl)) pgs_nil))) pgs_nil)))) (fun _ _ _ _ _ => pts_nil) (fun _ _ _ _ _ => (pe_op op_mulB (pv 16) (pe_pr h_power (hr.mono (by decide)) (pa_cons (pv 0) (pa_cons (pv 17) pa_nil)))))) pa_nil)) ip_add)
    (pss_cons (ps_set (i := 13) sc_number_within.nd rfl (.inl rfl) (pe_op op_add (pe_op op_mulB (pe_pr h_number_picked (hr.mono (by decide)) (pa_cons (pe_slice sl_list (pv 6) (po_some pe_int) po_none) (pa_cons (pv 10) pa_nil))) (pe_pr h_weaves (hr.mono (by decide)) (pa_cons (pv 0) (pa_cons (pv 8) pa_nil)))) (pv 12)))
    (pss_cons (ps_aug (i := 5) sc_number_within.nd rfl (.inl rfl) (pe_op op_mulB (pv 13) (pe_ix ix_list (pv 3) (pe_op op_sub (pe_callB call_len_seq (by rfl) B.len PySem.boot_len (pa_cons (pv 6) pa_nil)) (pv 8)) (fun _ _ => rfl))) ip_add)
    (pss_one (ps_setLc (i := 6) (g := (gName 14)) (tt := (tTest (tOp (rNotInD K) (tVar 14) (tVar 10)))) (te := (tVar 14)) (own := [("ring", 14)]) rfl sc_number_within.nd rfl rfl (sw_true rfl rfl rfl (by decide +kernel)) (pi_list (pe_slice sl_list (pv 6) (po_some pe_int) po_none)) (blkOk_by (N := ["length", "times", "rings", "ways", "homes", "found", "left", "some", "size", "less", "others", "turned", "weave", "mine", "ring", "one", "turn", "at"]) (sc := defScope s_number_within) (by decide +kernel)) (fun _ _ _ _ _ => (pg_name (i := 14) sc_number_within.nd rfl (.inl rfl) (.inr rfl))) (fun _ _ _ _ _ => (pts_one (pt_cmpR (op_notInD (un_lt65 hr)) (pv 14) (pv 10) (by rfl)))) (fun _ _ _ _ _ => (pv 14)))))))))))))))
    (pss_one (ps_ret (pv 5)))))), fun i G0 H0 D hp hq hn => ?_⟩
  obtain ⟨l, t, rings, R, here0⟩ := i
  obtain ⟨l0, l1, t0, t1, few, hok, hh0, hhome⟩ := hp
  dsimp only at l0 l1 t0 t1 few hok hh0 hhome hq ⊢
  generalize hm : rings.length = m at *
  refine go_seq (go_asg (ev_k (n := 0) rfl) (to_go ?_))
  refine go_seq (go_asg (ev_var (R := rRs) (x := rings) (i := 2) rfl) (to_go ?_))
  refine go_seq (go_whileS (fun s : List (List Nat) × Nat × Nat => [.val rN l, .val rN t, .val rRs rings, .val (rL rN) (wayL l t m), .val (rD rRs) (homesF R t), .val rN s.2.2, .val rRs s.1, .no, .no, .no, .no, .no, .no, .no, .no, .no, .no, .no])
    (fun s => (∃ k, s.1.length ≤ k ∧ Home R l t k s.1 s.2.1) ∧ OkN l s.1 ∧ s.1.length ≤ m ∧ s.2.1 < wayN l t s.1.length ∧ s.2.2 + s.2.1 = here0) (fun s => s.1.length) (fun s => decide (0 < s.1.length)) (rings, here0, 0) Wk.refl
    ⟨⟨m, by dsimp only; omega, hhome⟩, hok, by dsimp only; omega, by dsimp only; rw [hm]; exact hh0, by dsimp only; omega⟩ (fun s ps => eb_test (ev_gtN (ev_len (ev_var (i := 6) rfl)) (ev_k (n := 0) rfl))) (fun s ps hb => ?_) fun s ps hb => ?_)
  · obtain ⟨left, here, fo⟩ := s
    obtain ⟨⟨k, q0, q1⟩, q2, q3, q4, q5⟩ := ps
    dsimp only at q0 q1 q2 q3 q4 q5
    have hb : 0 < left.length := of_decide_eq_true hb
    cases left with
    | nil => exact absurd hb (Nat.lt_irrefl 0)
    | cons r0 rs =>
      obtain ⟨k', rfl⟩ : ∃ k', k = k' + 1 := ⟨k - 1, by simp at q0; omega⟩
      rw [List.length_cons] at q0 q3 q4
      simp only [Home] at q1
      have TT := turn_ok l0 (q2.len r0 (List.mem_cons_self ..)) q4
      obtain ⟨pk, ord, T0, N⟩ := turn_num l0 q2 q4
      have hsub := turn_rest l t r0 rs here
      generalize turnAt l t r0 rs here = u at TT N q1 hsub
      obtain ⟨q1a, q1b⟩ := q1
      have hgm := mem_groups.mp TT.grp
      have hless := TT.less
      have hr0 : r0.length = l := q2.len r0 (List.mem_cons_self ..)
      have g : ∀ {l : List Nat}, 0 < l.length → l[0]? = some (l.getD 0 0) := fun {l} hk => by
        rw [List.getD_eq_getElem?_getD, List.getElem?_eq_getElem hk]
        rfl
      have hsl : u.some.length = u.size := TT.size
      have hol : ord.length = u.size - 1 := by rw [N.perm.length_eq, N.plen]
      have hrsl : rs.length ≤ 63 := by omega
      have hnd : rs.Nodup := (List.nodup_cons.mp q2.ndr).2
      have hnr : ∀ r ∈ r0 :: rs, r.Nodup := (flat_nd q2.nd).1
      have hpin : ∀ r ∈ pk, r ∈ rs := fun r hr => N.psub.subset hr
      -- some, size
      refine go_seq (go_asg (ev_dget (ev_var (i := 4) rfl) (ev_NI (ev_ixL (ev_ixL (ev_var (i := 6) (x := r0 :: rs) rfl) (ev_k (n := 0) rfl) (x := r0) rfl) (ev_k (n := 0) rfl) (g (by omega)))) q1a) (to_go ?_))
      refine go_seq (go_asg (ev_is (ev_len (ev_var (i := 7) rfl)) hsl) (to_go ?_))
      have eN : ∀ {es : List Cell}, es[6]? = some (.val rRs (r0 :: rs)) → EvE T rN (tCB (rLn K) (tCons (tVar 6) tNil)) es (rs.length + 1) := fun h => ev_len (xs := r0 :: rs) (ev_var h)
      have eRs : ∀ {es : List Cell}, es[6]? = some (.val rRs (r0 :: rs)) → EvE T rRs (tSl (rSlL K) (tVar 6) (tPart (tC (.int 1))) tNoPart) es rs := fun h => ev_is (ev_frz frz_L (eo_slice (ev_var h) (po_so (ev_k (n := 1) rfl)) po_no)) rfl
      have eW : ∀ {es : List Cell} {tt : TE} {z : Nat}, es[3]? = some (.val (rL rN) (wayL l t m)) → z ≤ m → EvE T rN tt es z → EvE T rN (tOp (rIxL K) (tVar 3) tt) es (wayN l t z) := fun h hz he => ev_ixL (ev_var h) he (wayL_get l t hz)
      -- the sum of the lesser sizes
      refine go_seq (go_forS (xs := groupsF l t (rs.length + 1)) [9] (fun f' : Nat => [.val rN l, .val rN t, .val rRs rings, .val (rL rN) (wayL l t m), .val (rD rRs) (homesF R t), .val rN f', .val rRs (r0 :: rs), .val rRs u.some, .val rN u.size, .no, .no, .no, .no, .no, .no, .no, .no, .no])
        (fun j f' => f' = fo + ((((groupsF l t (rs.length + 1)).take j).filter fun s => decide (s < u.size)).map (blkN l t (rs.length + 1))).sum) fo (evi_list (ev_frz frz_L (eo_call (l, t, rs.length + 1) (ea_cons (ev_var (i := 0) rfl) (ea_cons (ev_var (i := 1) rfl) (ea_cons (eN rfl) ea_nil))) (And.intro l1 (show rs.length + 1 ≤ 64 by omega))))) Wk.refl (by simp) (fun G2 sh2 j z f' hzj pj => ?_) fun f' pj => ?_)
      · refine ⟨_, tg_name, ?_⟩
        have hzg := mem_groups.mp (List.mem_of_getElem? hzj)
        refine go_if (b := decide (z < u.size)) (eb_test (ev_ltN (ev_var (i := 9) rfl) (ev_var (i := 8) rfl))) (fun hb2 => ?_) fun hb2 => ?_
        · refine go_augN (i := 5) (c := f' + blkN l t (rs.length + 1) z) rfl (ev_mulN (ev_call (l, z, rs.length + 1) (ea_cons (ev_var (i := 0) rfl) (ea_cons (ev_var (i := 9) rfl) (ea_cons (eN rfl) ea_nil))) (And.intro l1 (And.intro hzg.1 (And.intro hzg.2.1 (show rs.length + 1 ≤ 64 by omega))))) (eW rfl (show rs.length + 1 - z ≤ m by omega) (ev_subN (eN rfl) (ev_var (i := 9) rfl) (by omega)))
            (mulok_nat (begun_lt (l := l) (s := z) (m := rs.length + 1) l1 (by omega) (by omega)) (way_lt (l := l) (t := t) (m := rs.length + 1 - z) (by omega) l1 (by omega)) (by omega) (by omega) (by omega))) (by simp [blkN]) (to_S (f' + blkN l t (rs.length + 1) z) ?_ (.keep (.keep (.keep (.keep (.keep (.keep (.keep (.keep (.keep (.drop (.keep (.keep (.keep (.keep (.keep (.keep (.keep (.keep .nil)))))))))))))))))))
          rw [take_filter_sum hzj, hb2, if_pos rfl, pj]
          omega
        · refine go_next (to_S f' ?_ (.keep (.keep (.keep (.keep (.keep (.keep (.keep (.keep (.keep (.drop (.keep (.keep (.keep (.keep (.keep (.keep (.keep (.keep .nil)))))))))))))))))))
          rw [take_filter_sum hzj, hb2, pj]
          simp
      rw [List.take_length] at pj
      -- others
      generalize hds : digits l (u.size - 1) T0 = ds at *
      have hdl : ord.length = ds.length := by rw [← hds, digits_length, hol]
      have hzl : (ord.zip ds).length ≤ 64 := by rw [List.length_zip]; omega
      have hsome : u.some = ((r0, 0) :: ord.zip ds).map rotP := by
        rw [N.some, List.map_cons, rotP_zero, hds]
      have eS : ∀ {es : List Cell}, es[7]? = some (.val rRs u.some) → EvE T (rL rRot) (tVar 7) es ((r0, 0) :: ord.zip ds) := fun h => ev_sub (ev_is (ev_var h) hsome) sub_pull
      have okP : ∀ p ∈ (r0, 0) :: ord.zip ds, p.1 ∈ r0 :: rs ∧ p.2 < l := fun p hp => by
        rcases List.mem_cons.mp hp with rfl | hp
        · exact ⟨List.mem_cons_self .., l0⟩
        · have h1 := (List.of_mem_zip hp).1
          have h2 := (List.of_mem_zip hp).2
          exact ⟨List.mem_cons_of_mem _ (hpin _ (N.perm.mem_iff.mp h1)), digits_lt l0 _ _ _ (by rw [hds]; exact h2)⟩
      have headIn : ∀ r ∈ r0 :: rs, r.getD 0 0 ∈ r := fun r hr => List.mem_of_getElem? (g (by rw [q2.len r hr]; exact l0))
      have hAft : 0 < wayN l t (rs.length + 1 - u.size) := by
        have := TT.here
        have e : u.rest.length = rs.length + 1 - u.size := by omega
        rw [e] at this
        omega
      have hsum := N.sum
      have hwy := way_lt (l := l) (t := t) (m := rs.length + 1) (by omega) l1 (by omega)
      have hmw : u.mine * weavesF l u.size + u.weave ≤ here := by
        have := Nat.le_mul_of_pos_right (u.mine * weavesF l u.size + u.weave) hAft
        omega
      have hpk64 : pk.length ≤ 64 := by rw [N.plen]; omega
      refine go_seq (go_asg (x := pk) (ev_frz frz_L (eo_is (ev_lc (S := rL rN) (xs := rs) (evi_list (eRs rfl)) (by omega) (fun r => decide (r.getD 0 0 ∈ r0.getD 0 0 :: ord.map fun r => r.getD 0 0)) (fun r => r) fun i r hr =>
        ⟨_, tg_name, eb_test (ev_inLN (ev_ixL (ev_var (i := 14) (x := r) rfl) (ev_k (n := 0) rfl) (g (by rw [q2.len r (List.mem_cons_of_mem _ (List.mem_of_getElem? hr))]; exact l0)))
          (ev_frz frz_L (eo_is (ev_lc (S := rN) (R := rRot) (xs := (r0, 0) :: ord.zip ds) (evi_list (eS rfl)) (by rw [List.length_cons]; omega) (fun _ => true) (fun p => p.1.getD 0 0) fun i p hp =>
            ⟨_, tg_name, eb_yes, fun _ => ev_minL (xs := rotP p) (ev_sub (ev_var (i := 15) rfl) sub_push) (rotP_mem.mpr (headIn _ (okP p (List.mem_of_getElem? hp)).1)) fun y hy => q2.min _ (okP p (List.mem_of_getElem? hp)).1 y (rotP_mem.mp hy)⟩)
            (show _ = r0.getD 0 0 :: ord.map fun r => r.getD 0 0 from by
              rw [map_all, List.map_cons]
              congr 1
              conv => rhs; rw [← List.map_fst_zip (l₁ := ord) (l₂ := ds) (by omega), List.map_map]
              rfl)))), fun _ => ev_var (i := 14) rfl⟩)
        (show _ = pk by rw [List.map_id', others_eq q2 N.psub N.perm]))) (to_go ?_))
      -- turned
      refine go_seq (go_asg (R := rL (rP (rL rN) rN)) (x := ord.zip ds) (ev_frz frz_L (eo_is (ev_lc (S := rP (rL rN) rN) (R := rRot) (xs := ord.zip ds) (evi_list (ev_is (ev_frz frz_L (eo_slice (eS rfl) (po_so (ev_k (n := 1) rfl)) po_no)) rfl)) (by omega) (fun _ => true) (fun p => p) fun i p hp =>
        ⟨_, tg_name, eb_yes, fun _ => ev_call (pk, p) (ea_cons (ev_var (i := 10) rfl) (ea_cons (ev_sub (ev_var (i := 15) rfl) sub_push) ea_nil)) ?_⟩) (by rw [map_all, List.map_id']))) (to_go ?_))
      · have hpz := List.mem_of_getElem? hp
        obtain ⟨o1, o2⟩ := okP p (List.mem_cons_of_mem _ hpz)
        have hpp := N.perm.mem_iff.mp (List.of_mem_zip hpz).1
        exact ⟨hpk64, hpp, by show p.2 < p.1.length; rw [q2.len _ o1]; exact o2, by show p.1.length ≤ 64; rw [q2.len _ o1]; exact l1, hnr _ o1, q2.min _ o1, fun r hr => by rw [q2.len r (List.mem_cons_of_mem _ (hpin r hr))]; exact l0, first_of q2 N.psub hpp⟩
      -- weave
      refine go_seq (go_asg (ev_call (pk, ord) (ea_cons (ev_var (i := 10) rfl) (ea_cons (ev_frz frz_L (eo_is (ev_lc (S := rL rN) (xs := ord.zip ds) (evi_list (ev_var (i := 11) rfl)) (by omega) (fun _ => true) (fun p => p.1) fun i p hp =>
        ⟨_, tg_tup (R := rL rN) (S := rN) tg_name tg_name, eb_yes, fun _ => ev_var (i := 14) rfl⟩) (show _ = ord by rw [map_all, List.map_fst_zip (by omega)]))) ea_nil)) (And.intro hpk64 (And.intro (hnd.sublist N.psub) N.perm))) (to_go ?_))
      dsimp only
      have hnumo := N.numo
      generalize numO pk ord 1 = no at hnumo ⊢
      have hPow : 0 < l ^ (u.size - 1) := Nat.pow_pos l0
      have hno : no < 2 ^ 800 := by
        have := Nat.le_mul_of_pos_right no hPow
        omega
      refine go_seq (go_augMulN (i := 12) rfl (ev_call (l, u.size - 1) (ea_cons (ev_var (i := 0) rfl) (ea_cons (ev_subN (ev_var (i := 8) rfl) (ev_k (n := 1) rfl) (by omega)) ea_nil)) (And.intro l1 (show u.size - 1 ≤ 64 by omega))) (mulok_nat hno (pow_lt l1 (show u.size - 1 ≤ 64 by omega)) (by omega) (by omega) (by omega)) (to_go ?_))
      have eT0 : sumD l ds 0 = T0 := by
        rw [← hds, sumD_digits l _ T0 0 N.t0]
        simp
      refine go_seq (go_augN (i := 12) (c := u.weave) rfl (ev_is (ev_sumL (ev_frz frz_L (eo_is (ev_lc (S := rN) (xs := enumL (ord.zip ds)) (evi_enum (ev_var (i := 11) rfl)) (by rw [enumL_length]; omega) (fun _ => true) (fun p => p.2.2 * l ^ p.1) fun i p hp =>
        ⟨_, tg_tup (R := rN) (S := rP (rL rN) rN) tg_name (tg_tup (R := rL rN) (S := rN) tg_name tg_name), eb_yes, fun _ => ?_⟩) (map_all _ _)))) ((enum_zip_sum l ord ds hdl).trans eT0)) (by dsimp only; omega) (to_go ?_))
      · obtain ⟨p1, p2⟩ := enumL_get hp
        have pl := (List.getElem?_eq_some_iff.mp p2).1
        have hd := (okP p.2 (List.mem_cons_of_mem _ (List.mem_of_getElem? p2))).2
        exact ev_mulN (ev_var (i := 16) rfl) (ev_call (l, p.1) (ea_cons (ev_var (i := 0) rfl) (ea_cons (ev_var (i := 17) rfl) ea_nil)) (And.intro l1 (show p.1 ≤ 64 by omega))) (mulok_nat (show p.2.2 < 2 ^ 10 by omega) (pow_lt l1 (show p.1 ≤ 64 by omega)) (by omega) (by omega) (by omega))
      -- mine
      have hmine : numP rs pk pk.length = u.mine := by
        rw [N.plen]
        exact N.nump
      have hWp : 0 < weavesF l u.size := weaves_pos l0
      have hmn : u.mine < 2 ^ 800 := by
        have := Nat.le_mul_of_pos_right u.mine hWp
        omega
      refine go_seq (go_asg (x := u.mine * weavesF l u.size + u.weave) (ev_addN (ev_mulN (ev_is (ev_call (rs, pk) (ea_cons (eRs rfl) (ea_cons (ev_var (i := 10) rfl) ea_nil)) (And.intro (show rs.length ≤ 64 by omega) (And.intro hnd N.psub))) hmine) (ev_call (l, u.size) (ea_cons (ev_var (i := 0) rfl) (ea_cons (ev_var (i := 8) rfl) ea_nil)) (And.intro l1 (And.intro hgm.1 (show u.size ≤ 64 by omega)))) (mulok_nat hmn (weaves_lt l1 (by omega)) (by omega) (by omega) (by omega))) (ev_var (i := 12) rfl)) (to_go ?_))
      refine go_seq (go_augN (i := 5) (c := f' + (u.mine * weavesF l u.size + u.weave) * wayN l t (rs.length + 1 - u.size)) rfl (ev_mulN (ev_var (i := 13) rfl) (eW rfl (show rs.length + 1 - u.size ≤ m by omega) (ev_subN (eN rfl) (ev_var (i := 8) rfl) (by omega))) (mulok_nat (show u.mine * weavesF l u.size + u.weave < 2 ^ 800 by omega) (way_lt (by omega) l1 (by omega)) (by omega) (by omega) (by omega))) (by simp) (to_go ?_))
      refine go_asg (x := u.rest) (ev_frz frz_L (eo_is (ev_lc (S := rL rN) (xs := rs) (evi_list (eRs rfl)) (by omega) (fun r => !decide (r ∈ pk)) (fun r => r) fun i r hr =>
        ⟨_, tg_name, eb_test (ev_notInLL (ev_var (i := 14) rfl) (ev_var (i := 10) rfl)), fun _ => ev_var (i := 14) rfl⟩) (show _ = u.rest by rw [List.map_id', N.rest])))
        (to_S (u.rest, u.here, f' + (u.mine * weavesF l u.size + u.weave) * wayN l t (rs.length + 1 - u.size)) ⟨⟨⟨k', by dsimp only; omega, q1b⟩, q2.sub (hsub.cons r0), by dsimp only; omega, TT.here, ?_⟩, by dsimp only; rw [List.length_cons]; omega⟩ (.keep (.keep (.keep (.keep (.keep (.keep (.keep (.drop (.drop (.keep (.drop (.drop (.drop (.drop (.keep (.keep (.keep (.keep .nil)))))))))))))))))))
      dsimp only
      omega
  · obtain ⟨left, here, fo⟩ := s
    obtain ⟨_, _, _, q4, q5⟩ := ps
    dsimp only at q4 q5
    have hb : ¬ 0 < left.length := of_decide_eq_false hb
    have e : left.length = 0 := by omega
    rw [e, way_zero] at q4
    refine to_go (go_ret (ev_var (i := 5) rfl) fun v G H st rr => hq v G H st ?_)
    have : fo = here0 := by omega
    rw [← this]
    exact rr
end
end AO
set_option Elab.async false
set_option linter.all false
set_option maxRecDepth 100000
set_option maxHeartbeats 8000000
/-! AON3: numbers of roots, walked. -/
namespace AO
open PySem L2
theorem putD_new {α : Type} {xs : List (Int × α)} {k : Int} {v : α} (h : k ∉ xs.map (·.1)) : putD xs k v = xs ++ [(k, v)] := by
  unfold putD
  rw [if_neg]
  rw [List.any_eq_true]
  rintro ⟨p, hp, e⟩
  exact h (List.mem_map.mpr ⟨p, hp, of_decide_eq_true e⟩)
theorem prodN_drop {σ : List Nat} {t : Nat} {ls : List Nat} {i l : Nat} (h : ls[i]? = some l) : prodN σ t (ls.drop i) = wayN l t (ofLen σ l).length * prodN σ t (ls.drop (i + 1)) := by
  obtain ⟨hi, e⟩ := List.getElem?_eq_some_iff.mp h
  rw [List.drop_eq_getElem_cons hi, e]
  rfl
theorem foldl_take {α β : Type} (f : β → α → β) (b : β) {xs : List α} {i : Nat} {x : α} (h : xs[i]? = some x) : (xs.take (i + 1)).foldl f b = f ((xs.take i).foldl f b) x := by
  rw [List.take_add_one, h, List.foldl_append]
  rfl
theorem pow_step {a b i : Nat} (ha : a < 2 ^ (800 * i + 1)) (hb : b < 2 ^ 800) : a * b < 2 ^ (800 * (i + 1) + 1) := by
  have := Nat.mul_lt_mul'' ha hb
  rw [← Nat.pow_add] at this
  rwa [show 800 * (i + 1) + 1 = 800 * i + 1 + 800 by omega]
section
variable {T : List (Addr × Str)}
theorem op2_leN {a b : Nat} : Op2 T (rI0 fun i j => .bl (decide (i ≤ j))) rN a rN b rB (decide (a ≤ b)) := fun G H v w Q m rv rw' q => ⟨(a : Int), (b : Int), rv, rw', q _ G H (Step.refl m) (by show V.bl _ = V.bl _; congr 1; simp)⟩
theorem op2_ltN {a b : Nat} : Op2 T (rI0 fun i j => .bl (decide (i < j))) rN a rN b rB (decide (a < b)) := fun G H v w Q m rv rw' q => ⟨(a : Int), (b : Int), rv, rw', q _ G H (Step.refl m) (by show V.bl _ = V.bl _; congr 1; simp)⟩
end
section
variable {P : Program} {w : World} {K : PySem.W.Frag} {mg : Str → Option Value} {base : Heap} {T : List (Addr × Str)}
abbrev OkT1 (σ : List Nat) (t : Nat) : Prop := OkO σ ∧ 0 < t ∧ t < 2 ^ 4000
abbrev spCount (T : List (Addr × Str)) : Sp := spE T (fun i : List Nat × Nat => [.val (rL rN) i.1, .val rN i.2]) (fun i => OkT1 i.1 i.2) rN fun i => countN i.1 i.2
abbrev spRootBy (T : List (Addr × Str)) : Sp := spO T (fun i : List Nat × Nat × Nat => [.val (rL rN) i.1, .val rN i.2.1, .val rN i.2.2]) (fun i => OkT1 i.1 i.2.1 ∧ i.2.2 < countN i.1 i.2.1) (oL rN) fun i => rootN i.1 i.2.1 i.2.2
abbrev spNumOf (T : List (Addr × Str)) : Sp := spE T (fun i : List Nat × Nat × Nat => [.val (rL rN) i.1, .val rN i.2.1, .val (rL rN) (rootN i.1 i.2.1 i.2.2)]) (fun i => OkT1 i.1 i.2.1 ∧ i.2.2 < countN i.1 i.2.1) rN fun i => i.2.2
abbrev spNoRoot (T : List (Addr × Str)) (C : Addr) : Sp := spR T (fun i : List Nat × Nat × List Nat => [.val (rL rN) i.1, .val rN i.2.1, .val (rL rN) i.2.2]) (fun i => OkT1 i.1 i.2.1 ∧ IsP i.2.2 ∧ i.2.2.length = i.1.length ∧ ¬ pwL i.2.2 (i.2.1 : Int) = i.1) fun _ => C
theorem sc_count_of : FnScope ["order", "times", "found", "length", "rings"] ["order", "times"] (defScope s_count_of) := ⟨rfl, rfl, rfl, by decide +kernel, rfl, by decide +kernel, by decide +kernel⟩
theorem ok_count_of {f : Addr} {fd : FuncData} (Df : Def K mg "count_of" s_count_of ["order", "times"] f fd) (B : Bn mg) (h_by_length : Pr P w K mg base CX0 4 "by_length" ["order"] (spBL T)) (h_ways_of : Pr P w K mg base CX0 4 "ways_of" ["length", "times", "many"] (spWays T)) :
    Pr P w K mg base CX0 (4 + 1) "count_of" ["order", "times"] (spCount T) := by
  refine fn_E Df sc_count_of (fun _ => rfl) fun cdv A outer s H E hr => ⟨_, (pss_cons (ps_set (i := 2) sc_count_of.nd rfl (.inl rfl) pe_int)
    (pss_cons (ps_for PassesOwn.never rfl (pi_items (pe_lk (pe_pr h_by_length (hr.mono (by decide)) (pa_cons (pv 0) pa_nil)))) (pg_tup rfl (pgs_cons (pg_name (i := 3) sc_count_of.nd rfl (.inl rfl)) (pgs_cons (pg_name (i := 4) sc_count_of.nd rfl (.inl rfl)) pgs_nil))) (pss_one (ps_aug (i := 2) sc_count_of.nd rfl (.inl rfl) (pe_ix ix_list (pe_pr h_ways_of (hr.mono (by decide)) (pa_cons (pv 3) (pa_cons (pv 1) (pa_cons (pe_callB call_len_seq (by rfl) B.len PySem.boot_len (pa_cons (pv 4) pa_nil)) pa_nil)))) (pe_callB call_len_seq (by rfl) B.len PySem.boot_len (pa_cons (pv 4) pa_nil)) (fun _ _ => rfl)) ip_mulB)))
    (pss_one (ps_ret (pv 2))))), fun i G0 H0 D hp hq hn => ?_⟩
  obtain ⟨σ, t⟩ := i
  obtain ⟨hO, ht0, ht⟩ := hp
  dsimp only at hO ht0 ht hq ⊢
  have hz := hO.2
  refine go_seq (go_asg (ev_k (n := 1) rfl) (to_go ?_))
  refine go_seq (go_forS (xs := byLen σ) [3, 4] (fun f' : Nat => [.val (rL rN) σ, .val rN t, .val rN f', .no, .no])
    (fun i f' => f' = ((lens σ).take i).foldl (fun a l => a * wayN l t (ofLen σ l).length) 1 ∧ f' < 2 ^ (800 * i + 1)) 1
    (evi_items (eo_call σ (ea_cons (ev_var (i := 0) rfl) ea_nil) (And.intro hO.1 (show σ.length ≤ 70 by omega)))) Wk.refl ⟨rfl, by decide⟩ (fun G1 sh i p f' hx ps => ?_) fun f' ps => ?_)
  · obtain ⟨p1, p2⟩ := ps
    unfold byLen at hx
    rw [List.getElem?_map] at hx
    obtain ⟨l, hl, rfl⟩ := Option.map_eq_some_iff.mp hx
    have hlm := List.mem_of_getElem? hl
    have hl64 := lens_lt64 hO.1 hz hlm
    have hil : i < 61 := by
      have := (List.getElem?_eq_some_iff.mp hl).1
      have h2 : (lens σ).length ≤ σ.length + 1 := by
        unfold lens
        refine Nat.le_trans (List.length_filter_le _ _) ?_
        rw [List.length_range]
        exact Nat.le_refl _
      omega
    have hm60 : (ofLen σ l).length ≤ 60 := by
      unfold ofLen
      exact Nat.le_trans (List.length_filter_le _ _) (Nat.le_trans rings_len hz)
    have hwl := way_lt (l := l) (t := t) (m := (ofLen σ l).length) (by omega) (by omega) (by omega)
    refine ⟨_, tg_tup (R := rI) (S := rRs) tg_name tg_name, ?_⟩
    refine go_augMulN (i := 2) rfl (ev_ixL (x := wayN l t (ofLen σ l).length) (ev_frz frz_L (eo_call (l, t, (ofLen σ l).length) (ea_cons (ev_IN (ev_var (i := 3) rfl) rfl) (ea_cons (ev_var (i := 1) rfl) (ea_cons (ev_len (ev_var (i := 4) rfl)) ea_nil))) (And.intro (show 1 ≤ l by omega) (And.intro (show l ≤ 64 by omega) (show (ofLen σ l).length ≤ 64 by omega))))) (ev_len (ev_var (i := 4) rfl)) (wayL_get l t (Nat.le_refl _)))
      (mulok_nat p2 hwl (by omega) (by omega) (by omega)) (to_S (f' * wayN l t (ofLen σ l).length) ⟨?_, pow_step p2 hwl⟩ (.keep (.keep (.keep (.drop (.drop .nil))))))
    rw [foldl_take _ _ hl, ← p1]
  · obtain ⟨p1, _⟩ := ps
    refine to_go (go_ret (ev_var (i := 2) rfl) fun v G H st rr => hq v G H st ?_)
    have hbl : (byLen σ).length = (lens σ).length := by
      unfold byLen
      rw [List.length_map]
    rw [hbl, List.take_length] at p1
    have : f' = countN σ t := p1
    rw [← this]
    exact rr
theorem sc_how_many : FnScope ["order", "times"] ["order", "times"] (defScope s_how_many) := ⟨rfl, rfl, rfl, by decide +kernel, rfl, by decide +kernel, by decide +kernel⟩
theorem ok_how_many {f : Addr} {fd : FuncData} (Df : Def K mg "how_many" s_how_many ["order", "times"] f fd) (B : Bn mg) (h_check_all : Pr P w K mg base CX0 4 "check_all" ["order", "times"] (spChkA T)) (h_count_of : Pr P w K mg base CX0 5 "count_of" ["order", "times"] (spCount T)) :
    Pr P w K mg base CX0 (5 + 1) "how_many" ["order", "times"] (spCount T) := by
  refine fn_E Df sc_how_many (fun _ => rfl) fun cdv A outer s H E hr => ⟨_, (pss_cons (ps_expr (pe_pr h_check_all (hr.mono (by decide)) (pa_cons (pv 0) (pa_cons (pv 1) pa_nil))))
    (pss_one (ps_ret (pe_pr h_count_of (hr.mono (by decide)) (pa_cons (pv 0) (pa_cons (pv 1) pa_nil)))))), fun i G0 H0 D hp hq hn => ?_⟩
  refine go_seq (go_drop (ev_call (i.1, i.2) (ea_cons (ev_var (i := 0) rfl) (ea_cons (ev_var (i := 1) rfl) ea_nil)) (And.intro hp.1 hp.2.1)) (to_go ?_))
  exact go_ret (ev_call i (ea_cons (ev_var (i := 0) rfl) (ea_cons (ev_var (i := 1) rfl) ea_nil)) hp) hq
theorem sc_root_by : FnScope ["order", "times", "number"] ["order", "times", "number"] (defScope s_root_by) := ⟨rfl, rfl, rfl, by decide +kernel, rfl, by decide +kernel, by decide +kernel⟩
theorem ok_root_by {f : Addr} {fd : FuncData} (Df : Def K mg "root_by" s_root_by ["order", "times", "number"] f fd) (B : Bn mg) (h_is_whole : Pr P w K mg base CX0 1 "is_whole" ["thing"] (spWhole T)) (h_check_all : Pr P w K mg base CX0 4 "check_all" ["order", "times"] (spChkA T)) (h_count_of : Pr P w K mg base CX0 5 "count_of" ["order", "times"] (spCount T))
    (h_root_of : Pr P w K mg base CX0 5 "root_of" ["order", "times", "number"] (spRoot T)) :
    Pr P w K mg base CX0 (5 + 1) "root_by" ["order", "times", "number"] (spRootBy T) := by
  refine fn_O Df sc_root_by (fun _ => rfl) fun cdv A outer s H E hr => ⟨_, (pss_cons (ps_expr (pe_pr h_check_all (hr.mono (by decide)) (pa_cons (pv 0) (pa_cons (pv 1) pa_nil))))
    (pss_cons (ps_if (PW.pt (pw_or (pt_not (pt_val (pe_pr h_is_whole (hr.mono (by decide)) (pa_cons (pv 2) pa_nil)))) (pw_or1 (pt_not (pt_chain op_le op_lt pe_int (pv 2) (pe_pr h_count_of (hr.mono (by decide)) (pa_cons (pv 0) (pa_cons (pv 1) pa_nil)))))))) (pss_one (ps_dead)) (pss_nil))
    (pss_one (ps_ret (pe_pr h_root_of (hr.mono (by decide)) (pa_cons (pv 0) (pa_cons (pv 1) (pa_cons (pv 2) pa_nil)))))))), fun i G0 H0 D hp hq hn => ?_⟩
  obtain ⟨σ, t, n⟩ := i
  obtain ⟨⟨hO, ht0, ht⟩, hnc⟩ := hp
  dsimp only at hO ht0 ht hnc hq ⊢
  have hw := prod_pos (show n < prodN σ t (lens σ) by rw [← countN_prod]; exact hnc)
  refine go_seq (go_drop (ev_call (σ, t) (ea_cons (ev_var (i := 0) rfl) (ea_cons (ev_var (i := 1) rfl) ea_nil)) (And.intro hO ht0)) (to_go ?_))
  refine go_seq (go_if (b := false) (eb_is (eb_or (a := false) (eb_not (eb_B (ev_call ((n : Nat) : Int) (ea_cons (ev_NI (ev_var (i := 2) rfl)) ea_nil) trivial))) fun _ => eb_not (eb_test (ev_chain (ev_k (n := 0) rfl) (ev_var (R := rN) (x := n) (i := 2) rfl) op2_leN (fun _ => ev_call (σ, t) (ea_cons (ev_var (i := 0) rfl) (ea_cons (ev_var (i := 1) rfl) ea_nil)) (And.intro hO (And.intro ht0 ht))) fun _ => op2_ltN))) (by dsimp only; rw [decide_eq_true (Nat.zero_le n), decide_eq_true hnc]; rfl)) (fun hb => by cases hb) fun _ => go_next (to_go ?_))
  exact go_retO (eo_call (σ, t, n) (ea_cons (ev_var (i := 0) rfl) (ea_cons (ev_var (i := 1) rfl) (ea_cons (ev_var (i := 2) rfl) ea_nil))) (And.intro hO (And.intro ht0 (And.intro ht hw)))) hq
theorem sc_number_of : FnScope ["order", "times", "root", "homes", "ring", "some", "found", "weight", "length", "rings", "ways"] ["order", "times", "root"] (defScope s_number_of) := ⟨rfl, rfl, rfl, by decide +kernel, rfl, by decide +kernel, by decide +kernel⟩
theorem ok_number_of {f : Addr} {fd : FuncData} (Df : Def K mg "number_of" s_number_of ["order", "times", "root"] f fd) (B : Bn mg) (h_check_all : Pr P w K mg base CX0 4 "check_all" ["order", "times"] (spChkA T)) (h_is_order : Pr P w K mg base CX0 2 "is_order" ["thing"] (spIsOrd T)) (h_done_often : Pr P w K mg base CX0 2 "done_often" ["order", "times"] (spDone T)) (h_rings_of : Pr P w K mg base CX0 1 "rings_of" ["order"] (spRings T))
    (h_parted : Pr P w K mg base CX0 2 "parted" ["order", "ring", "times"] (spParted T)) (h_by_length : Pr P w K mg base CX0 4 "by_length" ["order"] (spBL T)) (h_ways_of : Pr P w K mg base CX0 4 "ways_of" ["length", "times", "many"] (spWays T)) (h_number_within : Pr P w K mg base CX0 4 "number_within" ["length", "times", "rings", "ways", "homes"] (spWithin T)) :
    Pr P w K mg base CX0 (4 + 1) "number_of" ["order", "times", "root"] (spNumOf T) := by
  refine fn_E Df sc_number_of (fun _ => rfl) fun cdv A outer s H E hr => ⟨_, (pss_cons (ps_expr (pe_pr h_check_all (hr.mono (by decide)) (pa_cons (pv 0) (pa_cons (pv 1) pa_nil))))
    (pss_cons (ps_if (PW.pt (pw_or (pt_not (pt_val (pe_pr h_is_order (hr.mono (by decide)) (pa_cons (pv 2) pa_nil)))) (pw_or (pt_cmpR op_ne (pe_callB call_len_seq (by rfl) B.len PySem.boot_len (pa_cons (pv 2) pa_nil)) (pe_callB call_len_seq (by rfl) B.len PySem.boot_len (pa_cons (pv 0) pa_nil)) (nomark _)) (pw_or1 (pt_cmpR (op_neD (un_lt64 hr)) (pe_pr h_done_often (hr.mono (by decide)) (pa_cons (pv 2) (pa_cons (pv 1) pa_nil))) (pv 0) (nomark _)))))) (pss_one (ps_dead)) (pss_nil))
    (pss_cons (ps_set (i := 3) sc_number_of.nd rfl (.inl rfl) pe_dnewK)
    (pss_cons (ps_for PassesOwn.never rfl (pi_list (pe_pr h_rings_of (hr.mono (by decide)) (pa_cons (pv 2) pa_nil))) (pg_name (i := 4) sc_number_of.nd rfl (.inl rfl)) (pss_cons (ps_set (i := 5) sc_number_of.nd rfl (.inl rfl) (pe_pr h_parted (hr.mono (by decide)) (pa_cons (pv 0) (pa_cons (pv 4) (pa_cons (pv 1) pa_nil)))))
    (pss_one (ps_dput (un_lt hr) (pv 3) (pe_callB (cr_min rfl) (by rfl) B.min (by decide +kernel) (pa_cons (pv 4) pa_nil)) (pv 5) rfl))))
    (pss_cons (ps_set (i := 6) sc_number_of.nd rfl (.inl rfl) pe_int)
    (pss_cons (ps_set (i := 7) sc_number_of.nd rfl (.inl rfl) pe_int)
    (pss_cons (ps_for PassesOwn.never rfl (pi_items (pe_lk (pe_pr h_by_length (hr.mono (by decide)) (pa_cons (pv 0) pa_nil)))) (pg_tup rfl (pgs_cons (pg_name (i := 8) sc_number_of.nd rfl (.inl rfl)) (pgs_cons (pg_name (i := 9) sc_number_of.nd rfl (.inl rfl)) pgs_nil))) (pss_cons (ps_set (i := 10) sc_number_of.nd rfl (.inl rfl) (pe_pr h_ways_of (hr.mono (by decide)) (pa_cons (pv 8) (pa_cons (pv 1) (pa_cons (pe_callB call_len_seq (by rfl) B.len PySem.boot_len (pa_cons (pv 9) pa_nil)) pa_nil)))))
    (pss_cons (ps_aug (i := 6) sc_number_of.nd rfl (.inl rfl) (pe_op op_mulB (pv 7) (pe_pr h_number_within (hr.mono (by decide)) (pa_cons (pv 8) (pa_cons (pv 1) (pa_cons (pv 9) (pa_cons (pv 10) (pa_cons (pv 3) pa_nil))))))) ip_add)
    (pss_one (ps_aug (i := 7) sc_number_of.nd rfl (.inl rfl) (pe_ix ix_list (pv 10) (pe_un un_neg pe_int) (fun _ _ => rfl)) ip_mulB)))))
    (pss_one (ps_ret (pv 6)))))))))), fun i G0 H0 D hp hq hn => ?_⟩
  obtain ⟨σ, t, n⟩ := i
  obtain ⟨⟨hO, ht0, ht⟩, hnc⟩ := hp
  dsimp only at hO ht0 ht hnc hq ⊢
  have hz := hO.2
  have hR := rootN_ok hO.1 hz ht0 hnc
  have hnp : n < prodN σ t (lens σ) := by rw [← countN_prod]; exact hnc
  have hw := prod_pos hnp
  have hst := root_root (n := n) hO.1 hz ht0 hw
  change OStage (rootN σ t n) σ t (lens σ) n at hst
  generalize rootN σ t n = R at hR hst ⊢
  obtain ⟨hRP, hRl, hRp⟩ := hR
  have oR : OkO R := ⟨hRP, by omega⟩
  refine go_seq (go_drop (ev_call (σ, t) (ea_cons (ev_var (i := 0) rfl) (ea_cons (ev_var (i := 1) rfl) ea_nil)) (And.intro hO ht0)) (to_go ?_))
  refine go_seq (go_if (b := false) (eb_is (eb_or (a := false) (eb_is (eb_not (eb_B (ev_call R (ea_cons (ev_var (i := 2) rfl) ea_nil) (show R.length ≤ 1000 by omega)))) (by rw [isOrd_iff.mpr ⟨oR.2, oR.1⟩]; rfl)) fun _ => eb_or (a := false) (eb_is (eb_test (ev_neN (ev_len (ev_var (i := 2) rfl)) (ev_len (ev_var (i := 0) rfl)))) (by simp [hRl])) fun _ =>
    eb_test (ev_neD dt_LN (ev_frz frz_L (eo_call (R, (t : Int)) (ea_cons (ev_var (i := 2) rfl) (ea_cons (ev_NI (ev_var (i := 1) rfl)) ea_nil)) oR)) (ev_var (i := 0) rfl))) (by simp [hRp])) (fun hb => by cases hb) fun _ => go_next (to_go ?_))
  refine go_seq (go_asgO (eo_dict (R := rRs)) (to_go ?_))
  have hrl : (rings R).length ≤ 60 := Nat.le_trans rings_len (by omega)
  refine go_seq (go_forS (xs := rings R) [4] (fun s : List (Int × List (List Nat)) => [.val (rL rN) σ, .val rN t, .val (rL rN) R, .own (oD rRs) s, .no, .no, .no, .no, .no, .no, .no])
    (fun i s => s = ((rings R).take i).map fun r => (((r.getD 0 0 : Nat) : Int), partedF t r)) [] (evi_list (ev_frz frz_LL (eo_call R (ea_cons (ev_var (i := 2) rfl) ea_nil) (And.intro hRP (show R.length ≤ 70 by omega))))) Wk.refl rfl (fun G1 sh i r s hx ps => ?_) fun s ps => ?_)
  · have hrm := List.mem_of_getElem? hx
    obtain ⟨s0, hs0, hmin, hrs⟩ := (mem_rings hRP).mp hrm
    have hrn := ring_len hRP hrm
    have hsl : s.length ≤ 60 := by
      rw [ps, List.length_map, List.length_take]
      omega
    have hmn : ∀ x ∈ r, r.getD 0 0 ≤ x := fun x hx => by
      rw [hrs] at hx ⊢
      rw [orb_head]
      exact (isMin_iff hRP).mp hmin x hx
    have hhd : r.getD 0 0 ∈ r := by
      have : r[0]? = some (r.getD 0 0) := by
        rw [List.getD_eq_getElem?_getD, List.getElem?_eq_getElem hrn.1]
        rfl
      exact List.mem_of_getElem? this
    refine ⟨_, tg_name, ?_⟩
    refine go_seq (go_asg (ev_frz frz_L (eo_call (σ, r, t) (ea_cons (ev_var (i := 0) rfl) (ea_cons (ev_var (i := 4) rfl) (ea_cons (ev_var (i := 1) rfl) ea_nil))) (show OkPart r t from ⟨hrn.1, by omega, by rw [hrs]; exact orb_nodup hRP s0, hmn, ht0, ht⟩))) (to_go ?_))
    refine go_dput (i := 3) (k := ((r.getD 0 0 : Nat) : Int)) rfl (by omega) (ev_var (i := 5) rfl) (ev_NI (ev_minL (ev_var (i := 4) rfl) hhd hmn)) (to_S (putD s ((r.getD 0 0 : Nat) : Int) (partedF t r)) ?_ (.keep (.keep (.keep (.keep (.drop (.drop (.keep (.keep (.keep (.keep (.keep .nil))))))))))))
    rw [putD_new, List.take_add_one, hx, ps, List.map_append]
    · rfl
    · rw [ps, List.map_map]
      intro z
      obtain ⟨r', hr', e⟩ := List.mem_map.mp z
      obtain ⟨j, hj⟩ := List.getElem?_of_mem hr'
      have hjl := (List.getElem?_eq_some_iff.mp hj).1
      rw [List.length_take] at hjl
      rw [List.getElem?_take] at hj
      rw [if_pos (by omega)] at hj
      have hpw := List.pairwise_iff_getElem.mp (rings_heads (σ := R)) j i (by omega) (List.getElem?_eq_some_iff.mp hx).1 (by omega)
      have e1 := (List.getElem?_eq_some_iff.mp hj).2
      have e2 := (List.getElem?_eq_some_iff.mp hx).2
      rw [e1, e2] at hpw
      have e3 : ((r'.getD 0 0 : Nat) : Int) = ((r.getD 0 0 : Nat) : Int) := e
      omega
  have hs : s = homesF R t := by
    rw [ps, List.take_length]
    rfl
  subst hs
  refine to_go (go_frz 3 (rD rRs) rfl frz_D (go_seq (go_asg (ev_k (n := 0) rfl) (to_go (go_seq (go_asg (ev_k (n := 1) rfl) (to_go ?_)))))))
  refine go_seq (go_forS (xs := byLen σ) [8, 9] (fun s : Nat × Nat × Nat => [.val (rL rN) σ, .val rN t, .val (rL rN) R, .val (rD rRs) (homesF R t), .no, .no, .val rN s.1, .val rN s.2.1, .no, .no, .no])
    (fun i s => s.1 + s.2.1 * s.2.2 = n ∧ OStage R σ t ((lens σ).drop i) s.2.2 ∧ s.2.2 < prodN σ t ((lens σ).drop i) ∧ s.2.1 < 2 ^ (800 * i + 1)) (0, 1, n)
    (evi_items (eo_call σ (ea_cons (ev_var (i := 0) rfl) ea_nil) (And.intro hO.1 (show σ.length ≤ 70 by omega)))) Wk.refl ⟨by dsimp only; omega, hst, hnp, show 1 < 2 ^ (800 * 0 + 1) by decide⟩ (fun G1 sh i p s hx ps2 => ?_) fun s ps2 => ?_)
  · obtain ⟨fo, wt, num⟩ := s
    obtain ⟨p1, p2, p3, p4⟩ := ps2
    dsimp only at p1 p2 p3 p4
    unfold byLen at hx
    rw [List.getElem?_map] at hx
    obtain ⟨l, hl, rfl⟩ := Option.map_eq_some_iff.mp hx
    have hlm := List.mem_of_getElem? hl
    have hl64 := lens_lt64 hO.1 hz hlm
    have hil : i < 61 := by
      have := (List.getElem?_eq_some_iff.mp hl).1
      have h2 : (lens σ).length ≤ σ.length + 1 := by
        unfold lens
        refine Nat.le_trans (List.length_filter_le _ _) ?_
        rw [List.length_range]
        exact Nat.le_refl _
      omega
    have hm60 : (ofLen σ l).length ≤ 60 := by
      unfold ofLen
      exact Nat.le_trans (List.length_filter_le _ _) (Nat.le_trans rings_len hz)
    have hwl := way_lt (l := l) (t := t) (m := (ofLen σ l).length) (by omega) (by omega) (by omega)
    have hwp := hw l hlm
    have hdr : (lens σ).drop i = l :: (lens σ).drop (i + 1) := by
      obtain ⟨a, e⟩ := List.getElem?_eq_some_iff.mp hl
      rw [List.drop_eq_getElem_cons a, e]
    rw [hdr] at p2 p3
    simp only [OStage] at p2
    have hml := Nat.mod_lt num hwp
    have hhome := stage_home hRP hl64.1 _ _ _ (Nat.le_refl _) hml (okN_of hO.1 l) (fun x hx => by rw [hRl]; exact (ofLen_lt hO.1 hx).1) p2.1
    have hlast : (wayL l t (ofLen σ l).length).getLast? = some (wayN l t (ofLen σ l).length) := by
      rw [List.getLast?_eq_getElem?, wayL_length]
      exact wayL_get l t (Nat.le_refl _)
    refine ⟨_, tg_tup (R := rI) (S := rRs) tg_name tg_name, ?_⟩
    refine go_seq (go_asg (ev_frz frz_L (eo_call (l, t, (ofLen σ l).length) (ea_cons (ev_IN (ev_var (i := 8) rfl) rfl) (ea_cons (ev_var (i := 1) rfl) (ea_cons (ev_len (ev_var (i := 9) rfl)) ea_nil))) (And.intro (show 1 ≤ l by omega) (And.intro (show l ≤ 64 by omega) (show (ofLen σ l).length ≤ 64 by omega))))) (to_go ?_))
    refine go_seq (go_augN (i := 6) (c := fo + wt * (num % wayN l t (ofLen σ l).length)) rfl (ev_mulN (ev_var (i := 7) rfl) (ev_call (l, t, ofLen σ l, R, num % wayN l t (ofLen σ l).length) (ea_cons (ev_IN (ev_var (i := 8) rfl) rfl) (ea_cons (ev_var (i := 1) rfl) (ea_cons (ev_var (i := 9) rfl) (ea_cons (ev_var (i := 10) rfl) (ea_cons (ev_var (i := 3) rfl) ea_nil))))) (show OkW (l, t, ofLen σ l, R, num % wayN l t (ofLen σ l).length) from ⟨hl64.1, by show l ≤ 64; omega, ht0, ht, by show (ofLen σ l).length ≤ 64; omega, okN_of hO.1 l, hml, hhome⟩))
      (mulok_nat p4 (show num % wayN l t (ofLen σ l).length < 2 ^ 800 by omega) (by omega) (by omega) (by omega))) (by simp) (to_go ?_))
    refine go_augMulN (i := 7) rfl (ev_ixLast (ev_var (i := 10) rfl) (ev_negI ev_int) hlast) (mulok_nat p4 hwl (by omega) (by omega) (by omega)) (to_S (fo + wt * (num % wayN l t (ofLen σ l).length), wt * wayN l t (ofLen σ l).length, num / wayN l t (ofLen σ l).length) ⟨?_, p2.2, Nat.div_lt_of_lt_mul p3, pow_step p4 hwl⟩ (.keep (.keep (.keep (.keep (.keep (.keep (.keep (.keep (.drop (.drop (.drop .nil))))))))))))
    dsimp only
    rw [Nat.mul_assoc, Nat.add_assoc, ← Nat.mul_add, Nat.mod_add_div]
    exact p1
  · obtain ⟨fo, wt, num⟩ := s
    obtain ⟨p1, _, p3, _⟩ := ps2
    have hbl : (byLen σ).length = (lens σ).length := by
      unfold byLen
      rw [List.length_map]
    dsimp only at p1 p3
    rw [hbl, List.drop_length] at p3
    have : num = 0 := by
      have e : prodN σ t [] = 1 := rfl
      omega
    subst this
    refine to_go (go_ret (ev_var (i := 6) rfl) fun v G H st rr => hq v G H st ?_)
    have : fo = n := by omega
    rw [← this]
    exact rr
/-- what is no root is refused -/
theorem ok_no_root {C : Addr} {f : Addr} {fd : FuncData} (Df : Def K mg "number_of" s_number_of ["order", "times", "root"] f fd) (B : Bn mg) (X_NoRoot : XCl K mg "NoRoot" C) (h_check_all : Pr P w K mg base CX0 4 "check_all" ["order", "times"] (spChkA T)) (h_is_order : Pr P w K mg base CX0 2 "is_order" ["thing"] (spIsOrd T)) (h_done_often : Pr P w K mg base CX0 2 "done_often" ["order", "times"] (spDone T)) (h_rings_of : Pr P w K mg base CX0 1 "rings_of" ["order"] (spRings T))
    (h_parted : Pr P w K mg base CX0 2 "parted" ["order", "ring", "times"] (spParted T)) (h_by_length : Pr P w K mg base CX0 4 "by_length" ["order"] (spBL T)) (h_ways_of : Pr P w K mg base CX0 4 "ways_of" ["length", "times", "many"] (spWays T)) (h_number_within : Pr P w K mg base CX0 4 "number_within" ["length", "times", "rings", "ways", "homes"] (spWithin T)) :
    Pr P w K mg base (L2N.CX P w) (4 + 1) "number_of" ["order", "times", "root"] (spNoRoot T C) := by
  refine fn_R Df sc_number_of (fun _ => rfl) fun cdv A outer s H E hr => ⟨_, (pss_cons (ps_expr (pe_pr h_check_all (hr.mono (by decide)) (pa_cons (pv 0) (pa_cons (pv 1) pa_nil))))
    (pss_cons (ps_if (PW.pt (pw_or (pt_not (pt_val (pe_pr h_is_order (hr.mono (by decide)) (pa_cons (pv 2) pa_nil)))) (pw_or (pt_cmpR op_ne (pe_callB call_len_seq (by rfl) B.len PySem.boot_len (pa_cons (pv 2) pa_nil)) (pe_callB call_len_seq (by rfl) B.len PySem.boot_len (pa_cons (pv 0) pa_nil)) (nomark _)) (pw_or1 (pt_cmpR (op_neD (un_lt64 hr)) (pe_pr h_done_often (hr.mono (by decide)) (pa_cons (pv 2) (pa_cons (pv 1) pa_nil))) (pv 0) (nomark _)))))) (pss_one (L2N.ps_raise rfl (L2N.takes_of (E := E) rfl rfl rfl rfl) (L2N.pmk_own PySem.F.excBase_ValueError X_NoRoot.xi X_NoRoot.g X_NoRoot.k X_NoRoot.r rfl))) (pss_nil))
    (PSs.nox (pss_cons (ps_set (i := 3) sc_number_of.nd rfl (.inl rfl) pe_dnewK)
    (pss_cons (ps_for PassesOwn.never rfl (pi_list (pe_pr h_rings_of (hr.mono (by decide)) (pa_cons (pv 2) pa_nil))) (pg_name (i := 4) sc_number_of.nd rfl (.inl rfl)) (pss_cons (ps_set (i := 5) sc_number_of.nd rfl (.inl rfl) (pe_pr h_parted (hr.mono (by decide)) (pa_cons (pv 0) (pa_cons (pv 4) (pa_cons (pv 1) pa_nil)))))
    (pss_one (ps_dput (un_lt hr) (pv 3) (pe_callB (cr_min rfl) (by rfl) B.min (by decide +kernel) (pa_cons (pv 4) pa_nil)) (pv 5) rfl))))
    (pss_cons (ps_set (i := 6) sc_number_of.nd rfl (.inl rfl) pe_int)
    (pss_cons (ps_set (i := 7) sc_number_of.nd rfl (.inl rfl) pe_int)
    (pss_cons (ps_for PassesOwn.never rfl (pi_items (pe_lk (pe_pr h_by_length (hr.mono (by decide)) (pa_cons (pv 0) pa_nil)))) (pg_tup rfl (pgs_cons (pg_name (i := 8) sc_number_of.nd rfl (.inl rfl)) (pgs_cons (pg_name (i := 9) sc_number_of.nd rfl (.inl rfl)) pgs_nil))) (pss_cons (ps_set (i := 10) sc_number_of.nd rfl (.inl rfl) (pe_pr h_ways_of (hr.mono (by decide)) (pa_cons (pv 8) (pa_cons (pv 1) (pa_cons (pe_callB call_len_seq (by rfl) B.len PySem.boot_len (pa_cons (pv 9) pa_nil)) pa_nil)))))
    (pss_cons (ps_aug (i := 6) sc_number_of.nd rfl (.inl rfl) (pe_op op_mulB (pv 7) (pe_pr h_number_within (hr.mono (by decide)) (pa_cons (pv 8) (pa_cons (pv 1) (pa_cons (pv 9) (pa_cons (pv 10) (pa_cons (pv 3) pa_nil))))))) ip_add)
    (pss_one (ps_aug (i := 7) sc_number_of.nd rfl (.inl rfl) (pe_ix ix_list (pv 10) (pe_un un_neg pe_int) (fun _ _ => rfl)) ip_mulB)))))
    (pss_one (ps_ret (pv 6))))))))))), fun i G0 H0 D hp hq => ?_⟩
  obtain ⟨σ, t, R⟩ := i
  obtain ⟨⟨hO, ht0, ht⟩, hRP, hRl, hne⟩ := hp
  dsimp only at hO ht0 ht hRP hRl hne hq ⊢
  have hz := hO.2
  have oR : OkO R := ⟨hRP, by omega⟩
  refine go_seq (go_drop (ev_call (σ, t) (ea_cons (ev_var (i := 0) rfl) (ea_cons (ev_var (i := 1) rfl) ea_nil)) (And.intro hO ht0)) (to_go ?_))
  refine go_seq (go_if (b := true) (eb_is (eb_or (a := false) (eb_is (eb_not (eb_B (ev_call R (ea_cons (ev_var (i := 2) rfl) ea_nil) (show R.length ≤ 1000 by omega)))) (by rw [isOrd_iff.mpr ⟨oR.2, oR.1⟩]; rfl)) fun _ => eb_or (a := false) (eb_is (eb_test (ev_neN (ev_len (ev_var (i := 2) rfl)) (ev_len (ev_var (i := 0) rfl)))) (by simp [hRl])) fun _ =>
    eb_test (ev_neD dt_LN (ev_frz frz_L (eo_call (R, (t : Int)) (ea_cons (ev_var (i := 2) rfl) (ea_cons (ev_NI (ev_var (i := 1) rfl)) ea_nil)) oR)) (ev_var (i := 0) rfl))) (by simp [hne])) (fun _ G H st F m => hq G H m.st) fun hb => by cases hb)
end
end AO
set_option Elab.async false
set_option linter.all false
set_option maxRecDepth 100000
set_option maxHeartbeats 4000000
/-! AOZ1: what is refused at each door. -/
namespace AO
open PySem L2
theorem op2_leI {T : List (Addr × Str)} {i j : Int} : Op2 T (rI0 fun i j => .bl (decide (i ≤ j))) rI i rI j rB (decide (i ≤ j)) := fun G H v w Q m rv rw' q => ⟨i, j, rv, rw', q _ G H (Step.refl m) rfl⟩
theorem op2_ltI {T : List (Addr × Str)} {i j : Int} : Op2 T (rI0 fun i j => .bl (decide (i < j))) rI i rI j rB (decide (i < j)) := fun G H v w Q m rv rw' q => ⟨i, j, rv, rw', q _ G H (Step.refl m) rfl⟩
/-- a count's least, told or not -/
def lC : Bool → Cell
  | true => .val rN 1
  | false => .val rU ()
def badT (x : Th) (l : Bool) : Prop := isWT x = false ∨ (l = true ∧ ∃ i : Int, x = .el (.int i) ∧ i < 1)
inductive I2
  | ord (x t : Th)
  | tim (σ : List Nat) (t : Th)
def I2.cs : I2 → List Cell
  | .ord x t => [.val rTh x, .val rTh t]
  | .tim σ t => [.val (rL rN) σ, .val rTh t]
def I2.ok (l : Bool) : I2 → Prop
  | .ord x _ => okT x ∧ isOrdT x = false
  | .tim σ t => OkO σ ∧ badT t l
def I2.err : I2 → Err
  | .ord _ _ => .bo
  | .tim _ _ => .bt
inductive I3
  | ord (x t n : Th)
  | tim (σ : List Nat) (t n : Th)
  | num (σ : List Nat) (t : Nat) (n : Th)
def I3.cs : I3 → List Cell
  | .ord x t n => [.val rTh x, .val rTh t, .val rTh n]
  | .tim σ t n => [.val (rL rN) σ, .val rTh t, .val rTh n]
  | .num σ t n => [.val (rL rN) σ, .val rN t, .val rTh n]
def I3.ok (N : List Nat → Nat → Th → Prop) : I3 → Prop
  | .ord x _ _ => okT x ∧ isOrdT x = false
  | .tim σ t _ => OkO σ ∧ badT t true
  | .num σ t n => OkT1 σ t ∧ N σ t n
def I3.err (y : Err) : I3 → Err
  | .ord _ _ _ => .bo
  | .tim _ _ _ => .bt
  | .num _ _ _ => y
def badN (σ : List Nat) (t : Nat) (n : Th) : Prop := isWT n = false ∨ ∃ i : Int, n = .el (.int i) ∧ ¬ (0 ≤ i ∧ i < (countN σ t : Int))
def badR (σ : List Nat) (_ : Nat) (r : Th) : Prop := okT r ∧ ∀ xs, r = .lst xs → isOrdT r = true → xs.length ≠ σ.length
inductive I4
  | one (x y : Th)
  | two (σ : List Nat) (y : Th)
  | len (σ τ : List Nat)
def I4.cs : I4 → List Cell
  | .one x y => [.val rTh x, .val rTh y]
  | .two σ y => [.val (rL rN) σ, .val rTh y]
  | .len σ τ => [.val (rL rN) σ, .val (rL rN) τ]
def I4.ok : I4 → Prop
  | .one x _ => okT x ∧ isOrdT x = false
  | .two σ y => OkO σ ∧ okT y ∧ isOrdT y = false
  | .len σ τ => OkO σ ∧ OkO τ ∧ σ.length ≠ τ.length
def I4.err : I4 → Err
  | .one _ _ => .bo
  | .two _ _ => .bo
  | .len _ _ => .ot
theorem cs2 (i : I2) : i.cs.length = 2 := by cases i <;> rfl
theorem cs3 (i : I3) : i.cs.length = 3 := by cases i <;> rfl
theorem cs4 (i : I4) : i.cs.length = 2 := by cases i <;> rfl
section
variable {P : Program} {w : World} {K : PySem.W.Frag} {mg : Str → Option Value} {base : Heap} {T : List (Addr × Str)}
abbrev spWhT (T : List (Addr × Str)) : Sp := spE T (fun x : Th => [.val rTh x]) (fun _ => True) rB isWT
abbrev spIsOT (T : List (Addr × Str)) : Sp := spE T (fun x : Th => [.val rTh x]) okT rB isOrdT
abbrev spBadO (T : List (Addr × Str)) (C : Addr) : Sp := spR T (fun x : Th => [.val rTh x]) (fun x => okT x ∧ isOrdT x = false) fun _ => C
abbrev spBadT (T : List (Addr × Str)) (C : Addr) : Sp := spR T (fun i : Th × Bool => [.val rTh i.1, lC i.2]) (fun i => badT i.1 i.2) fun _ => C
abbrev spBad2 (T : List (Addr × Str)) (e : EA) (l : Bool) : Sp := spR T I2.cs (I2.ok l) fun i => i.err.ad e
abbrev spBad3 (T : List (Addr × Str)) (e : EA) (N : List Nat → Nat → Th → Prop) (y : Err) : Sp := spR T I3.cs (I3.ok N) fun i => (i.err y).ad e
abbrev spBad4 (T : List (Addr × Str)) (e : EA) : Sp := spR T I4.cs I4.ok fun i => i.err.ad e
theorem ok_wholeT {f : Addr} {fd : FuncData} (Df : Def K mg "is_whole" s_is_whole ["thing"] f fd) (B : Bn mg) :
    Pr P w K mg base CX0 (0 + 1) "is_whole" ["thing"] (spWhT T) := by
  refine fn_E Df sc_is_whole (fun _ => rfl) fun cdv A outer s H E hr => ⟨_, (pss_one (ps_ret (pe_and (pe_callB call_isi (by rfl) B.isinstance (by decide +kernel) (pa_cons (pv 0) (pa_cons (pe_bltn (v := .ty "int") (by rfl) B.int PyProof.Rows.boot_int rfl) pa_nil))) (pe_one (pe_not (pe_callB call_isi (by rfl) B.isinstance (by decide +kernel) (pa_cons (pv 0) (pa_cons (pe_bltn (v := .ty "bool") (by rfl) B.bool PyProof.Rows.boot_bool rfl) pa_nil)))))))), fun x G0 H0 D hp hq hn => ?_⟩
  exact go_ret (ev_is (ev_andV (ev_isi (ev_var (i := 0) (x := x) rfl) (ty_Th x) (.ty "int") (kit_int x)) fun _ => ev_notV (ev_isi (ev_var (i := 0) (x := x) rfl) (ty_Th x) (.ty "bool") (kit_bool x))) (isWT_eq x)) hq
theorem ok_orderT {f : Addr} {fd : FuncData} (Df : Def K mg "is_order" s_is_order ["thing"] f fd) (B : Bn mg) (h_is_whole : Pr P w K mg base CX0 1 "is_whole" ["thing"] (spWhT T)) :
    Pr P w K mg base CX0 (1 + 1) "is_order" ["thing"] (spIsOT T) := by
  obtain ⟨tM, hMOST⟩ := B.MOST
  refine fn_E Df sc_is_order (fun _ => rfl) fun cdv A outer s H E hr => ⟨_, (pss_cons (ps_if (PW.pt (pw_or (pt_not (pt_val (pe_callB call_isi (by rfl) B.isinstance (by decide +kernel) (pa_cons (pv 0) (pa_cons (pe_bltn (v := .ty "list") (by rfl) B.list PyProof.Rows.boot_list rfl) pa_nil))))) (pw_or (pt_cmpR op_gt (pe_callB call_len_seq (by rfl) B.len PySem.boot_len (pa_cons (pv 0) pa_nil)) (pe_glob (v := .int 60) rfl hMOST ⟨_, rfl⟩) (nomark _)) (pw_or1 (pt_not (pt_val (pe_callB (cr_all rfl) (by rfl) B.all (by decide +kernel) (pa_cons (pe_lc (g := (gName 1)) (tt := tYes) (te := (tCall _ [] _ (tCons (tVar 1) tNil))) (own := [("one", 1)]) rfl sc_is_order.nd (pi_list (pv 0)) (blkOk_by (N := ["thing", "one"]) (sc := defScope s_is_order) (by decide +kernel)) (fun _ _ _ _ _ => (pg_name (i := 1) sc_is_order.nd rfl (.inl rfl) (.inr rfl))) (fun _ _ _ _ _ => pts_nil) (fun _ _ _ _ _ => (pe_pr h_is_whole (hr.mono (by decide)) (pa_cons (pv 1) pa_nil)))) pa_nil)))))))) (pss_one (ps_ret pe_bl)) (pss_nil))
    (pss_one (ps_ret (pe_cmpR (op_eqD (un_lt64 hr)) (pe_callB cr_sortedI (by rfl) B.sorted (by decide +kernel) (pa_cons (pv 0) pa_nil)) (pe_listRg rfl (by rfl) B.list (prg_1 (by rfl) B.range (pe_callB call_len_seq (by rfl) B.len PySem.boot_len (pa_cons (pv 0) pa_nil)))) (nomark _))))), fun x G0 H0 D hp hq hn => ?_⟩
  cases x with
  | el e =>
    have hl : isLst (.el e) = false := by
      cases e <;> first | rfl | exact (show False from hp).elim
    exact go_seq (go_if (b := true) (eb_or (a := true) (b := true) (eb_is (eb_not (eb_B (ev_isi (ev_var (i := 0) (x := Th.el e) rfl) (ty_Th _) (.ty "list") (kit_list _)))) (by rw [hl]; rfl)) fun z => by cases z) (fun _ => go_ret (ev_bl (b := false)) hq) fun z => by cases z)
  | lst xs =>
    have hz : xs.length ≤ 1000 := hp
    have eL : ∀ {es : List Cell}, es[0]? = some (.val rTh (.lst xs)) → EvE T (rL rEl) (tVar 0) es xs := fun h => ev_sub (ev_var h) (sub_Tl xs)
    refine go_seq (go_if (eb_or (eb_not (eb_B (ev_isi (b := true) (ev_var (i := 0) (x := Th.lst xs) rfl) (ty_Th _) (.ty "list") (kit_list _)))) fun _ =>
      eb_or (eb_test (ev_gtN (ev_len (eL rfl)) (ev_k (n := 60) rfl))) fun _ => eb_not (eb_B (ev_is (ev_all (ev_frz frz_L (ev_lc (S := rB) (xs := xs) (evi_list (eL rfl)) (by omega) (fun _ => true) isWE fun i x hx =>
        ⟨_, tg_name, eb_yes, fun _ => ev_call (Th.el x) (ea_cons (ev_sub (ev_var (i := 1) rfl) (sub_elT x)) ea_nil) trivial⟩))) (show _ = xs.all isWE by rw [map_all, List.all_map]; rfl)))) (fun hb => ?_) fun hb => ?_)
    · refine go_ret (ev_bl (b := false)) fun v G H st r => hq v G H st ?_
      have : isOrdT (.lst xs) = false := by
        show (xs.all isWE && isOrdI (xs.map elI)) = false
        rw [isOrdI_eq, List.length_map]
        cases hw : xs.all isWE with
        | false => rfl
        | true =>
          rw [hw] at hb
          have : 60 < xs.length := by simpa using hb
          rw [decide_eq_false (by omega)]
          rfl
      rw [this]
      exact r
    · have hb : xs.length ≤ 60 ∧ xs.all isWE = true := by simpa using hb
      have e := els_int hb.2
      generalize xs.map elI = ys at e
      subst e
      have hyl : ys.length ≤ 60 := by
        have := hb.1
        rw [List.length_map] at this
        exact this
      have eI : ∀ {es : List Cell}, es[0]? = some (.val rTh (.lst (ys.map El.int))) → EvE T (rL rI) (tVar 0) es ys := fun h => ev_sub (ev_var h) (sub_TLI ys)
      refine go_next (to_go (go_ret (ev_is (ev_eqD dt_LI (ev_frz frz_L (eo_sortedI (eI rfl) (sortI_perm ys) (sortI_pw ys))) (ev_sub (ev_frz frz_L (eo_listRg (ev_len (eI rfl)) (by omega))) sub_LN)) (srt_eq ys ys.length)) fun v G H st r => hq v G H st ?_))
      have : isOrdT (.lst (ys.map El.int)) = srt ys ys.length := by
        refine (isOrdT_lstI ys).trans ?_
        rw [isOrdI_eq, decide_eq_true hyl]
        rfl
      rw [this]
      exact r
theorem bad_check_order {C : Addr} {f : Addr} {fd : FuncData} (Df : Def K mg "check_order" s_check_order ["order"] f fd) (B : Bn mg) (X_BadOrder : XCl K mg "BadOrder" C) (h_is_order : Pr P w K mg base CX0 2 "is_order" ["thing"] (spIsOT T)) :
    Pr P w K mg base (L2N.CX P w) (2 + 1) "check_order" ["order"] (spBadO T C) := by
  refine fn_R Df sc_check_order (fun _ => rfl) fun cdv A outer s H E hr => ⟨_, (pss_one (ps_if (pt_not (pt_val (pe_pr h_is_order (hr.mono (by decide)) (pa_cons (pv 0) pa_nil)))) (pss_one (L2N.ps_raise rfl (L2N.takes_of (E := E) rfl rfl rfl rfl) (L2N.pmk_own PySem.F.excBase_ValueError X_BadOrder.xi X_BadOrder.g X_BadOrder.k X_BadOrder.r rfl))) (pss_nil))), fun x G0 H0 D hp hq => ?_⟩
  exact go_if (b := true) (eb_is (eb_not (eb_B (ev_call x (ea_cons (ev_var (i := 0) rfl) ea_nil) hp.1))) (by rw [hp.2]; rfl)) (fun _ => fun G H σ F m => hq G H m.st) fun z => by cases z
theorem bad_check_times {C : Addr} {f : Addr} {fd : FuncData} (Df : Def K mg "check_times" s_check_times ["times", "least"] f fd) (B : Bn mg) (X_BadTimes : XCl K mg "BadTimes" C) (h_is_whole : Pr P w K mg base CX0 1 "is_whole" ["thing"] (spWhT T)) :
    Pr P w K mg base (L2N.CX P w) (1 + 1) "check_times" ["times", "least"] (spBadT T C) := by
  refine fn_R Df sc_check_times (fun _ => rfl) fun cdv A outer s H E hr => ⟨_, (pss_one (ps_if (PW.pt (pw_or (pt_not (pt_val (pe_pr h_is_whole (hr.mono (by decide)) (pa_cons (pv 0) pa_nil)))) (pw_or1 (PW.pt (pw_and (pt_cmpR op_notN (pv 1) pe_non (nomark _)) (pw_and1 (pt_cmpR op_lt (pv 0) (pv 1) (nomark _)))))))) (pss_one (L2N.ps_raise rfl (L2N.takes_of (E := E) rfl rfl rfl rfl) (L2N.pmk_own PySem.F.excBase_ValueError X_BadTimes.xi X_BadTimes.g X_BadTimes.k X_BadTimes.r rfl))) (pss_nil))), fun i G0 H0 D hp hq => ?_⟩
  obtain ⟨x, l⟩ := i
  rcases hp with h | ⟨hl, n, e, hn⟩
  · exact go_if (b := true) (eb_or (a := true) (b := true) (eb_is (eb_not (eb_B (ev_call x (ea_cons (ev_var (i := 0) rfl) ea_nil) trivial))) (by rw [show isWT x = false from h]; rfl)) fun z => by cases z) (fun _ => fun G H σ F m => hq G H m.st) fun z => by cases z
  · obtain rfl : l = true := hl
    obtain rfl : x = .el (.int n) := e
    have e1 : ∀ {es : List Cell}, es[1]? = some (lC true) → EvE T rN (tVar 1) es 1 := fun h => ev_var (R := rN) (x := 1) h
    exact go_if (b := true) (eb_or (a := false) (b := true) (eb_is (eb_not (eb_B (ev_call (Th.el (.int n)) (ea_cons (ev_var (i := 0) rfl) ea_nil) trivial))) rfl) fun _ => eb_and (a := true) (b := true) (eb_test (ev_op (R := rN) (S := rU) (x := 1) (y := ()) (e1 rfl) ev_non fun G H v w' Q m rv rw' q => ⟨rw', q _ G H (Step.refl m) (by rw [show v = .int _ from rv]; rfl)⟩)) fun _ =>
      eb_is (eb_test (ev_ltI (ev_sub (ev_var (i := 0) rfl) (sub_TI n)) (ev_NI (e1 rfl)))) (decide_eq_true hn)) (fun _ => fun G H σ F m => hq G H m.st) fun z => by cases z
section
variable {e : EA}
theorem bad_check_all {f : Addr} {fd : FuncData} (Df : Def K mg "check_all" s_check_all ["order", "times"] f fd) (B : Bn mg) (h_check_order : Pr P w K mg base CX0 3 "check_order" ["order"] (spChkO T)) (x_check_order : Pr P w K mg base (L2N.CX P w) 3 "check_order" ["order"] (spBadO T e.BO)) (x_check_times : Pr P w K mg base (L2N.CX P w) 2 "check_times" ["times", "least"] (spBadT T e.BT)) :
    Pr P w K mg base (L2N.CX P w) (3 + 1) "check_all" ["order", "times"] (spBad2 T e true) := by
  refine fn_R Df sc_check_all cs2 fun cdv A outer s H E hr => ⟨_, (pss_cons (ps_expr (pe_either (pe_pr h_check_order (hr.mono (by decide)) (pa_cons (pv 0) pa_nil)) (pe_prS x_check_order (hr.mono (by decide)) (L2N.takes_of (E := E) rfl rfl rfl rfl) (pa_cons (pv 0) pa_nil))))
    (pss_one (ps_expr (pe_prS x_check_times (hr.mono (by decide)) (L2N.takes_of (E := E) rfl rfl rfl rfl) (pa_cons (pv 1) (pa_cons pe_int pa_nil)))))), fun i G0 H0 D hp hq => ?_⟩
  cases i with
  | ord x t => exact go_seq (go_dropX (thr_orR (thr_R x (ea_cons (ev_var (i := 0) rfl) ea_nil) hp rfl)) hq)
  | tim σ t => exact go_seq (go_drop (ev_orL (ev_call σ (ea_cons (ev_var (i := 0) rfl) ea_nil) hp.1)) (to_go (go_dropX (thr_R (t, true) (ea_cons (ev_var (i := 1) rfl) (ea_cons (ev_k (n := 1) rfl) ea_nil)) hp.2 rfl) hq)))
theorem bad_done_again {f : Addr} {fd : FuncData} (Df : Def K mg "done_again" s_done_again ["order", "times"] f fd) (B : Bn mg) (h_check_order : Pr P w K mg base CX0 3 "check_order" ["order"] (spChkO T)) (x_check_order : Pr P w K mg base (L2N.CX P w) 3 "check_order" ["order"] (spBadO T e.BO)) (x_check_times : Pr P w K mg base (L2N.CX P w) 2 "check_times" ["times", "least"] (spBadT T e.BT)) :
    Pr P w K mg base (L2N.CX P w) (3 + 1) "done_again" ["order", "times"] (spBad2 T e false) := by
  refine fn_R Df sc_done_again cs2 fun cdv A outer s H E hr => ⟨_, (pss_cons (ps_expr (pe_either (pe_pr h_check_order (hr.mono (by decide)) (pa_cons (pv 0) pa_nil)) (pe_prS x_check_order (hr.mono (by decide)) (L2N.takes_of (E := E) rfl rfl rfl rfl) (pa_cons (pv 0) pa_nil))))
    (pss_cons (ps_expr (pe_prS x_check_times (hr.mono (by decide)) (L2N.takes_of (E := E) rfl rfl rfl rfl) (pa_cons (pv 1) (pa_cons pe_non pa_nil)))) pss_dead)), fun i G0 H0 D hp hq => ?_⟩
  cases i with
  | ord x t => exact go_seq (go_dropX (thr_orR (thr_R x (ea_cons (ev_var (i := 0) rfl) ea_nil) hp rfl)) hq)
  | tim σ t => exact go_seq (go_drop (ev_orL (ev_call σ (ea_cons (ev_var (i := 0) rfl) ea_nil) hp.1)) (to_go (go_seq (go_dropX (thr_R (t, false) (ea_cons (ev_var (i := 1) rfl) (ea_cons ev_non ea_nil)) hp.2 rfl) hq))))
theorem bad_rings_in {f : Addr} {fd : FuncData} (Df : Def K mg "rings_in" s_rings_in ["order"] f fd) (B : Bn mg) (x_check_order : Pr P w K mg base (L2N.CX P w) 3 "check_order" ["order"] (spBadO T e.BO)) :
    Pr P w K mg base (L2N.CX P w) (3 + 1) "rings_in" ["order"] (spBadO T e.BO) := by
  refine fn_R Df sc_rings_in (fun _ => rfl) fun cdv A outer s H E hr => ⟨_, (pss_cons (ps_expr (pe_prS x_check_order (hr.mono (by decide)) (L2N.takes_of (E := E) rfl rfl rfl rfl) (pa_cons (pv 0) pa_nil))) pss_dead), fun x G0 H0 D hp hq => ?_⟩
  exact go_seq (go_dropX (thr_R x (ea_cons (ev_var (i := 0) rfl) ea_nil) hp rfl) hq)
theorem bad_back {f : Addr} {fd : FuncData} (Df : Def K mg "back" s_back ["order"] f fd) (B : Bn mg) (x_check_order : Pr P w K mg base (L2N.CX P w) 3 "check_order" ["order"] (spBadO T e.BO)) :
    Pr P w K mg base (L2N.CX P w) (3 + 1) "back" ["order"] (spBadO T e.BO) := by
  refine fn_R Df sc_back (fun _ => rfl) fun cdv A outer s H E hr => ⟨_, (pss_cons (ps_expr (pe_prS x_check_order (hr.mono (by decide)) (L2N.takes_of (E := E) rfl rfl rfl rfl) (pa_cons (pv 0) pa_nil))) pss_dead), fun x G0 H0 D hp hq => ?_⟩
  exact go_seq (go_dropX (thr_R x (ea_cons (ev_var (i := 0) rfl) ea_nil) hp rfl) hq)
theorem ea_2 {T : List (Addr × Str)} {es : List Cell} (i : I2) (h : ∃ n, es = i.cs ++ List.replicate n Cell.no) : EvA T (tCons (tVar 0) (tCons (tVar 1) tNil)) es i.cs := by
  obtain ⟨n, rfl⟩ := h
  cases i with
  | ord x t => exact ea_cons (ev_var (i := 0) rfl) (ea_cons (ev_var (i := 1) rfl) ea_nil)
  | tim σ t => exact ea_cons (ev_var (i := 0) rfl) (ea_cons (ev_var (i := 1) rfl) ea_nil)
theorem sc_told : FnScope ["order", "times", "length", "rings"] ["order", "times"] (defScope s_told) := ⟨rfl, rfl, rfl, by decide +kernel, rfl, by decide +kernel, by decide +kernel⟩
theorem bad_told {f : Addr} {fd : FuncData} (Df : Def K mg "told" s_told ["order", "times"] f fd) (B : Bn mg) (x_check_all : Pr P w K mg base (L2N.CX P w) 4 "check_all" ["order", "times"] (spBad2 T e true)) :
    Pr P w K mg base (L2N.CX P w) (5 + 1) "told" ["order", "times"] (spBad2 T e true) := by
  refine fn_R Df sc_told cs2 fun cdv A outer s H E hr => ⟨_, (pss_cons (ps_expr (pe_prS x_check_all (hr.mono (by decide)) (L2N.takes_of (E := E) rfl rfl rfl rfl) (pa_cons (pv 0) (pa_cons (pv 1) pa_nil)))) pss_dead), fun i G0 H0 D hp hq => ?_⟩
  exact go_seq (go_dropX (thr_R i (ea_2 i ⟨_, rfl⟩) hp rfl) hq)
theorem bad_how_many {f : Addr} {fd : FuncData} (Df : Def K mg "how_many" s_how_many ["order", "times"] f fd) (B : Bn mg) (x_check_all : Pr P w K mg base (L2N.CX P w) 4 "check_all" ["order", "times"] (spBad2 T e true)) :
    Pr P w K mg base (L2N.CX P w) (5 + 1) "how_many" ["order", "times"] (spBad2 T e true) := by
  refine fn_R Df sc_how_many cs2 fun cdv A outer s H E hr => ⟨_, (pss_cons (ps_expr (pe_prS x_check_all (hr.mono (by decide)) (L2N.takes_of (E := E) rfl rfl rfl rfl) (pa_cons (pv 0) (pa_cons (pv 1) pa_nil)))) pss_dead), fun i G0 H0 D hp hq => ?_⟩
  exact go_seq (go_dropX (thr_R i (ea_2 i ⟨_, rfl⟩) hp rfl) hq)
theorem bad_root_by {f : Addr} {fd : FuncData} (Df : Def K mg "root_by" s_root_by ["order", "times", "number"] f fd) (B : Bn mg) (X_BadNumber : XCl K mg "BadNumber" e.BN) (h_check_all : Pr P w K mg base CX0 4 "check_all" ["order", "times"] (spChkA T)) (x_check_all : Pr P w K mg base (L2N.CX P w) 4 "check_all" ["order", "times"] (spBad2 T e true))
    (h_is_whole : Pr P w K mg base CX0 1 "is_whole" ["thing"] (spWhT T)) (h_count_of : Pr P w K mg base CX0 5 "count_of" ["order", "times"] (spCount T)) :
    Pr P w K mg base (L2N.CX P w) (5 + 1) "root_by" ["order", "times", "number"] (spBad3 T e badN .bn) := by
  refine fn_R Df sc_root_by cs3 fun cdv A outer s H E hr => ⟨_, (pss_cons (ps_expr (pe_either (pe_pr h_check_all (hr.mono (by decide)) (pa_cons (pv 0) (pa_cons (pv 1) pa_nil))) (pe_prS x_check_all (hr.mono (by decide)) (L2N.takes_of (E := E) rfl rfl rfl rfl) (pa_cons (pv 0) (pa_cons (pv 1) pa_nil)))))
    (pss_cons (ps_if (PW.pt (pw_or (pt_not (pt_val (pe_pr h_is_whole (hr.mono (by decide)) (pa_cons (pv 2) pa_nil)))) (pw_or1 (pt_not (pt_chain op_le op_lt pe_int (pv 2) (pe_pr h_count_of (hr.mono (by decide)) (pa_cons (pv 0) (pa_cons (pv 1) pa_nil)))))))) (pss_one (L2N.ps_raise rfl (L2N.takes_of (E := E) rfl rfl rfl rfl) (L2N.pmk_own PySem.F.excBase_ValueError X_BadNumber.xi X_BadNumber.g X_BadNumber.k X_BadNumber.r rfl))) (pss_nil)) pss_dead)), fun i G0 H0 D hp hq => ?_⟩
  cases i with
  | ord x t n => exact go_seq (go_dropX (thr_orR (thr_R (.ord x t) (ea_cons (ev_var (i := 0) rfl) (ea_cons (ev_var (i := 1) rfl) ea_nil)) hp rfl)) hq)
  | tim σ t n => exact go_seq (go_dropX (thr_orR (thr_R (.tim σ t) (ea_cons (ev_var (i := 0) rfl) (ea_cons (ev_var (i := 1) rfl) ea_nil)) hp rfl)) hq)
  | num σ t n =>
    obtain ⟨hI, hn⟩ := hp
    refine go_seq (go_drop (ev_orL (ev_call (σ, t) (ea_cons (ev_var (i := 0) rfl) (ea_cons (ev_var (i := 1) rfl) ea_nil)) (And.intro hI.1 hI.2.1))) (to_go ?_))
    rcases hn with h | ⟨i, e1, hi⟩
    · exact go_seq (go_if (b := true) (eb_or (a := true) (b := true) (eb_is (eb_not (eb_B (ev_call n (ea_cons (ev_var (i := 2) rfl) ea_nil) trivial))) (by rw [show isWT n = false from h]; rfl)) fun z => by cases z) (fun _ => fun G H σ F m => hq G H m.st) fun z => by cases z)
    · obtain rfl : n = .el (.int i) := e1
      refine go_seq (go_if (b := true) (eb_or (a := false) (b := true) (eb_is (eb_not (eb_B (ev_call (Th.el (.int i)) (ea_cons (ev_var (i := 2) rfl) ea_nil) trivial))) rfl) fun _ => eb_is (eb_not (eb_test (ev_chain (b := decide ((0 : Int) ≤ i)) (c := decide (i < (countN σ t : Int))) (ev_int (i := 0)) (ev_sub (ev_var (R := rTh) (i := 2) rfl) (sub_TI i)) op2_leI (fun _ => ev_NI (ev_call (σ, t) (ea_cons (ev_var (i := 0) rfl) (ea_cons (ev_var (i := 1) rfl) ea_nil)) hI)) fun _ => op2_ltI))) ?_) (fun _ => fun G H σ F m => hq G H m.st) fun z => by cases z)
      by_cases h0 : 0 ≤ i
      · rw [decide_eq_true h0, decide_eq_false fun h1 => hi ⟨h0, h1⟩]
        rfl
      · rw [decide_eq_false h0]
        rfl
theorem bad_number_of {f : Addr} {fd : FuncData} (Df : Def K mg "number_of" s_number_of ["order", "times", "root"] f fd) (B : Bn mg) (X_NoRoot : XCl K mg "NoRoot" e.NR) (h_check_all : Pr P w K mg base CX0 4 "check_all" ["order", "times"] (spChkA T)) (x_check_all : Pr P w K mg base (L2N.CX P w) 4 "check_all" ["order", "times"] (spBad2 T e true))
    (h_is_order : Pr P w K mg base CX0 2 "is_order" ["thing"] (spIsOT T)) (h_done_often : Pr P w K mg base CX0 2 "done_often" ["order", "times"] (spDone T)) :
    Pr P w K mg base (L2N.CX P w) (4 + 1) "number_of" ["order", "times", "root"] (spBad3 T e badR .nr) := by
  refine fn_R Df sc_number_of cs3 fun cdv A outer s H E hr => ⟨_, (pss_cons (ps_expr (pe_either (pe_pr h_check_all (hr.mono (by decide)) (pa_cons (pv 0) (pa_cons (pv 1) pa_nil))) (pe_prS x_check_all (hr.mono (by decide)) (L2N.takes_of (E := E) rfl rfl rfl rfl) (pa_cons (pv 0) (pa_cons (pv 1) pa_nil)))))
    (pss_cons (ps_if (PW.pt (pw_or (pt_not (pt_val (pe_pr h_is_order (hr.mono (by decide)) (pa_cons (pv 2) pa_nil)))) (pw_or (pt_cmpR op_ne (pe_callB call_len_seq (by rfl) B.len PySem.boot_len (pa_cons (pv 2) pa_nil)) (pe_callB call_len_seq (by rfl) B.len PySem.boot_len (pa_cons (pv 0) pa_nil)) (nomark _)) (pw_or1 (pt_cmpR (op_neD (un_lt64 hr)) (pe_pr h_done_often (hr.mono (by decide)) (pa_cons (pv 2) (pa_cons (pv 1) pa_nil))) (pv 0) (nomark _)))))) (pss_one (L2N.ps_raise rfl (L2N.takes_of (E := E) rfl rfl rfl rfl) (L2N.pmk_own PySem.F.excBase_ValueError X_NoRoot.xi X_NoRoot.g X_NoRoot.k X_NoRoot.r rfl))) (pss_nil)) pss_dead)), fun i G0 H0 D hp hq => ?_⟩
  cases i with
  | ord x t n => exact go_seq (go_dropX (thr_orR (thr_R (.ord x t) (ea_cons (ev_var (i := 0) rfl) (ea_cons (ev_var (i := 1) rfl) ea_nil)) hp rfl)) hq)
  | tim σ t n => exact go_seq (go_dropX (thr_orR (thr_R (.tim σ t) (ea_cons (ev_var (i := 0) rfl) (ea_cons (ev_var (i := 1) rfl) ea_nil)) hp rfl)) hq)
  | num σ t r =>
    obtain ⟨hI, hr1, hr2⟩ := hp
    refine go_seq (go_drop (ev_orL (ev_call (σ, t) (ea_cons (ev_var (i := 0) rfl) (ea_cons (ev_var (i := 1) rfl) ea_nil)) (And.intro hI.1 hI.2.1))) (to_go ?_))
    cases ho : isOrdT r with
    | false => exact go_seq (go_if (b := true) (eb_or (a := true) (b := true) (eb_is (eb_not (eb_B (ev_call r (ea_cons (ev_var (i := 2) rfl) ea_nil) hr1))) (by rw [ho]; rfl)) fun z => by cases z) (fun _ => fun G H σ F m => hq G H m.st) fun z => by cases z)
    | true =>
      cases r with
      | el y => cases ho
      | lst xs =>
        have hne := hr2 xs rfl ho
        refine go_seq (go_if (b := true) (eb_or (a := false) (b := true) (eb_is (eb_not (eb_B (ev_call (Th.lst xs) (ea_cons (ev_var (i := 2) rfl) ea_nil) hr1))) (by rw [ho]; rfl)) fun _ => eb_or (a := true) (b := true) (eb_is (eb_test (ev_neN (ev_len (ev_sub (ev_var (i := 2) rfl) (sub_Tl xs))) (ev_len (ev_var (i := 0) rfl)))) (by rw [decide_eq_false hne]; rfl)) fun z => by cases z) (fun _ => fun G H σ F m => hq G H m.st) fun z => by cases z)
theorem sc_turned : FnScope ["one", "other", "mine", "theirs", "found", "length", "some", "more", "ring", "image", "thing", "place"] ["one", "other"] (defScope s_turned) := ⟨rfl, rfl, rfl, by decide +kernel, rfl, by decide +kernel, by decide +kernel⟩
theorem bad_turned {f : Addr} {fd : FuncData} (Df : Def K mg "turned" s_turned ["one", "other"] f fd) (B : Bn mg) (X_Others : XCl K mg "Others" e.OT) (h_check_order : Pr P w K mg base CX0 3 "check_order" ["order"] (spChkO T)) (x_check_order : Pr P w K mg base (L2N.CX P w) 3 "check_order" ["order"] (spBadO T e.BO)) :
    Pr P w K mg base (L2N.CX P w) (4 + 1) "turned" ["one", "other"] (spBad4 T e) := by
  refine fn_R Df sc_turned cs4 fun cdv A outer s H E hr => ⟨_, (pss_cons (ps_expr (pe_either (pe_pr h_check_order (hr.mono (by decide)) (pa_cons (pv 0) pa_nil)) (pe_prS x_check_order (hr.mono (by decide)) (L2N.takes_of (E := E) rfl rfl rfl rfl) (pa_cons (pv 0) pa_nil))))
    (pss_cons (ps_expr (pe_either (pe_pr h_check_order (hr.mono (by decide)) (pa_cons (pv 1) pa_nil)) (pe_prS x_check_order (hr.mono (by decide)) (L2N.takes_of (E := E) rfl rfl rfl rfl) (pa_cons (pv 1) pa_nil))))
    (pss_cons (ps_if (pt_cmpR op_ne (pe_callB call_len_seq (by rfl) B.len PySem.boot_len (pa_cons (pv 0) pa_nil)) (pe_callB call_len_seq (by rfl) B.len PySem.boot_len (pa_cons (pv 1) pa_nil)) (nomark _)) (pss_one (L2N.ps_raise rfl (L2N.takes_of (E := E) rfl rfl rfl rfl) (L2N.pmk_own PySem.F.excBase_ValueError X_Others.xi X_Others.g X_Others.k X_Others.r rfl))) (pss_nil)) pss_dead))), fun i G0 H0 D hp hq => ?_⟩
  cases i with
  | one x y => exact go_seq (go_dropX (thr_orR (thr_R x (ea_cons (ev_var (i := 0) rfl) ea_nil) hp rfl)) hq)
  | two σ y => exact go_seq (go_drop (ev_orL (ev_call σ (ea_cons (ev_var (i := 0) rfl) ea_nil) hp.1)) (to_go (go_seq (go_dropX (thr_orR (thr_R y (ea_cons (ev_var (i := 1) rfl) ea_nil) hp.2 rfl)) hq))))
  | len σ τ =>
    refine go_seq (go_drop (ev_orL (ev_call σ (ea_cons (ev_var (i := 0) rfl) ea_nil) hp.1)) (to_go (go_seq (go_drop (ev_orL (ev_call τ (ea_cons (ev_var (i := 1) rfl) ea_nil) hp.2.1)) (to_go ?_)))))
    exact go_seq (go_if (b := true) (eb_is (eb_test (ev_neN (ev_len (ev_var (i := 0) rfl)) (ev_len (ev_var (i := 1) rfl)))) (by rw [decide_eq_false hp.2.2]; rfl)) (fun _ => fun G H σ F m => hq G H m.st) fun z => by cases z)
end
end
end AO
set_option Elab.async false
set_option linter.all false
set_option maxRecDepth 100000
set_option maxHeartbeats 4000000
/-! AOL3b: more of the law's helpers. -/
namespace AO
open PySem L2
section
variable {P : Program} {w : World} {K : PySem.W.Frag} {mg : Str → Option Value} {base : Heap} {T : List (Addr × Str)}
abbrev spLWhole (T : List (Addr × Str)) : Sp := spE T (fun i : Int => [.val rI i]) (fun _ => True) rB fun _ => true
abbrev spSays (T : List (Addr × Str)) : Sp := spE T (fun i : Bool × Bool => [.val rB i.1, .val rB i.2]) (fun _ => True) rB fun i => decide (i.1 = i.2)

end
end AO
set_option Elab.async false
set_option linter.all false
/-! AOMath6: back and forth; least common multiples; lengths counted. -/
namespace AO
theorem lcmF_dvd : ∀ {ls : List Nat} {a m : Nat}, (ls.foldl (fun a l => a / Nat.gcd a l * l) a) ∣ m ↔ a ∣ m ∧ ∀ l ∈ ls, l ∣ m
  | [], a, m => by simp
  | l :: ls, a, m => by
    rw [List.foldl_cons, lcmF_dvd (ls := ls), lcm_step]
    constructor
    · rintro ⟨h1, h2⟩
      refine ⟨Nat.dvd_trans (Nat.dvd_lcm_left a l) h1, fun x hx => ?_⟩
      rcases List.mem_cons.mp hx with rfl | hx
      · exact Nat.dvd_trans (Nat.dvd_lcm_right a x) h1
      · exact h2 x hx
    · rintro ⟨h1, h2⟩
      exact ⟨Nat.lcm_dvd h1 (h2 l (List.mem_cons_self ..)), fun x hx => h2 x (List.mem_cons_of_mem _ hx)⟩
theorem lcmF_iff {ls : List Nat} {m : Nat} : lcmF ls ∣ m ↔ ∀ l ∈ ls, l ∣ m := by
  unfold lcmF
  rw [lcmF_dvd]
  simp
theorem lcmF_same {ls ms : List Nat} (h : ∀ l, l ∈ ls ↔ l ∈ ms) : lcmF ls = lcmF ms :=
  Nat.dvd_antisymm (lcmF_iff.mpr fun l hl => lcmF_iff.mp (Nat.dvd_refl _) l ((h l).mp hl)) (lcmF_iff.mpr fun l hl => lcmF_iff.mp (Nat.dvd_refl _) l ((h l).mpr hl))
theorem lcmF_snoc (ls : List Nat) (l : Nat) : lcmF (ls ++ [l]) = Nat.lcm (lcmF ls) l := by
  unfold lcmF
  rw [List.foldl_append]
  exact lcm_step _ _
theorem lcmF_pos {ls : List Nat} (h : ∀ l ∈ ls, 0 < l) : 0 < lcmF ls := by
  have aux : ∀ (ls : List Nat) (a : Nat), 0 < a → (∀ l ∈ ls, 0 < l) → 0 < ls.foldl (fun a l => a / Nat.gcd a l * l) a := by
    intro ls
    induction ls with
    | nil => intro a ha _; exact ha
    | cons l ls ih =>
      intro a ha h
      rw [List.foldl_cons, lcm_step]
      exact ih _ (Nat.lcm_pos ha (h l (List.mem_cons_self ..))) fun x hx => h x (List.mem_cons_of_mem _ hx)
  exact aux ls 1 (by omega) h
/-- a step of the search for the least common multiple -/
theorem search_step {d s l : Nat} (h1 : s ∣ d) (h2 : d ≤ Nat.lcm s l) (h3 : d % l ≠ 0) (h0 : 0 < Nat.lcm s l) : s ∣ d + s ∧ d + s ≤ Nat.lcm s l := by
  refine ⟨Nat.dvd_add h1 (Nat.dvd_refl s), ?_⟩
  have hne : d ≠ Nat.lcm s l := fun e => h3 (by
    rw [e]
    exact Nat.mod_eq_zero_of_dvd (Nat.dvd_lcm_right s l))
  obtain ⟨a, ha⟩ := h1
  obtain ⟨b, hb⟩ := Nat.dvd_lcm_left s l
  rw [ha] at h2 hne ⊢
  rw [hb] at h2 hne ⊢
  have : a < b := by
    rcases Nat.lt_or_ge a b with q | q
    · exact q
    · exact absurd (Nat.le_antisymm h2 (Nat.mul_le_mul_left s q)) hne
  calc s * a + s = s * (a + 1) := by rw [Nat.mul_succ]
    _ ≤ s * b := Nat.mul_le_mul_left s this
theorem search_end {d s l : Nat} (h1 : s ∣ d) (h2 : d ≤ Nat.lcm s l) (h3 : d % l = 0) (h0 : 0 < d) : d = Nat.lcm s l :=
  Nat.le_antisymm h2 (Nat.le_of_dvd h0 (Nat.lcm_dvd h1 (Nat.dvd_of_mod_eq_zero h3)))
section
variable {σ : List Nat}
theorem pw_zero (h : IsP σ) (x : Nat) : pw σ 0 x = x := by
  rw [show (0 : Int) = ((0 : Nat) : Int) from rfl, pw_nat h]
  rfl
theorem pw_one (h : IsP σ) (x : Nat) : pw σ 1 x = ap σ x := by
  rw [show (1 : Int) = ((1 : Nat) : Int) from rfl, pw_nat h]
  rfl
theorem back_forth (h : IsP σ) (t : Int) : pwL (pwL σ t) (-1) = pwL σ (-t) := by
  have hτ := pwL_P h t
  unfold pwL
  rw [show ((List.range σ.length).map (pw σ t)).length = σ.length by simp]
  apply List.map_congr_left
  intro x hx
  have hx := List.mem_range.mp hx
  have hy := pw_lt h hx (-t)
  have e1 : pw (pwL σ t) 1 (pw σ (-t) x) = x := by
    rw [pw_one hτ, pwL_ap t hy, ← pw_add h, Int.add_right_neg, pw_zero h]
  show pw (pwL σ t) (-1) x = pw σ (-t) x
  conv => lhs; rw [← e1]
  rw [← pw_add hτ, Int.add_left_neg, pw_zero hτ]
end
def keyMem {α : Type} (d : List (Int × α)) (k : Int) : Prop := k ∈ d.map (·.1)
theorem put_keys {α : Type} {xs : List (Int × α)} {k j : Int} {v : α} : j ∈ (putD xs k v).map (·.1) ↔ j ∈ xs.map (·.1) ∨ j = k := by
  unfold putD
  split
  · rename_i h
    have e : (xs.map fun p => if p.1 = k then (p.1, v) else p).map (·.1) = xs.map (·.1) := by
      rw [List.map_map]
      apply List.map_congr_left
      intro p _
      dsimp
      split <;> rfl
    rw [e]
    constructor
    · exact .inl
    · rintro (h2 | rfl)
      · exact h2
      · obtain ⟨p, hp, e2⟩ := List.any_eq_true.mp h
        exact List.mem_map.mpr ⟨p, hp, by simpa using e2⟩
  · rw [List.map_append, List.mem_append]
    simp
theorem put_nodup {α : Type} {xs : List (Int × α)} {k : Int} {v : α} (hn : (xs.map (·.1)).Nodup) : ((putD xs k v).map (·.1)).Nodup := by
  unfold putD
  split
  · have e : (xs.map fun p => if p.1 = k then (p.1, v) else p).map (·.1) = xs.map (·.1) := by
      rw [List.map_map]
      apply List.map_congr_left
      intro p _
      dsimp
      split <;> rfl
    rw [e]
    exact hn
  · rename_i h
    rw [List.map_append, List.nodup_append]
    refine ⟨hn, by simp, fun a ha b hb e => ?_⟩
    have hb : b = k := by simpa using hb
    subst hb
    subst e
    obtain ⟨p, hp, e⟩ := List.mem_map.mp ha
    exact h (List.any_eq_true.mpr ⟨p, hp, by simp [e]⟩)
theorem look_keys {α : Type} {xs : List (Int × α)} {k : Int} : (lookD xs k).isSome = true ↔ k ∈ xs.map (·.1) := by
  unfold lookD
  rw [Option.isSome_map, List.find?_isSome, List.mem_map]
  constructor
  · rintro ⟨p, hp, e⟩
    exact ⟨p, hp, by simpa using e⟩
  · rintro ⟨p, hp, e⟩
    exact ⟨p, hp, by simp [e]⟩
end AO
set_option Elab.async false
set_option linter.all false
set_option maxRecDepth 100000
set_option maxHeartbeats 4000000
/-! AOLen: the law's count of rings by their lengths. -/
namespace AO
open PySem L2
theorem count_fold (l : Int) : ∀ (rs : List (List Nat)) (d : List (Int × Nat)), (lookD (rs.foldl countR d) l).getD 0 = (lookD d l).getD 0 + (rs.filter fun r => decide ((r.length : Int) = l)).length
  | [], d => rfl
  | r :: rs, d => by
    rw [List.foldl_cons, count_fold l rs]
    unfold countR
    rw [look_put, List.filter_cons]
    by_cases e : (r.length : Int) = l
    · subst e
      simp
      omega
    · have : ¬ l = (r.length : Int) := fun h => e h.symm
      rw [if_neg this]
      simp [e]
theorem lenF_look (σ : List Nat) (l : Int) : (lookD (lenF σ) l).getD 0 = (ofLenI σ l).length := by
  have := count_fold l (rings σ) []
  rw [show (lookD ([] : List (Int × Nat)) l).getD 0 = 0 from rfl, Nat.zero_add] at this
  exact this
theorem lenF_keys (σ : List Nat) (k : Int) : k ∈ (lenF σ).map (·.1) ↔ ∃ r ∈ rings σ, k = (r.length : Int) := by
  have aux : ∀ (rs : List (List Nat)) (d : List (Int × Nat)), k ∈ (rs.foldl countR d).map (·.1) ↔ k ∈ d.map (·.1) ∨ ∃ r ∈ rs, k = (r.length : Int) := by
    intro rs
    induction rs with
    | nil => intro d; simp
    | cons r rs ih =>
      intro d
      rw [List.foldl_cons, ih]
      unfold countR
      rw [put_keys]
      constructor
      · rintro ((h | h) | ⟨r', h1, h2⟩)
        · exact .inl h
        · exact .inr ⟨r, List.mem_cons_self .., h⟩
        · exact .inr ⟨r', List.mem_cons_of_mem _ h1, h2⟩
      · rintro (h | ⟨r', h1, h2⟩)
        · exact .inl (.inl h)
        · rcases List.mem_cons.mp h1 with rfl | h1
          · exact .inl (.inr h2)
          · exact .inr ⟨r', h1, h2⟩
  have := aux (rings σ) []
  unfold lenF
  simpa using this
theorem lenF_nodup (σ : List Nat) : ((lenF σ).map (·.1)).Nodup := by
  have aux : ∀ (rs : List (List Nat)) (d : List (Int × Nat)), (d.map (·.1)).Nodup → ((rs.foldl countR d).map (·.1)).Nodup := by
    intro rs
    induction rs with
    | nil => intro d h; exact h
    | cons r rs ih =>
      intro d h
      exact ih _ (put_nodup h)
  exact aux _ [] List.nodup_nil
theorem lenF_lcm (σ : List Nat) : lcmF (((lenF σ).map (·.1)).map Int.toNat) = backN σ := by
  refine lcmF_same fun l => ?_
  rw [List.mem_map, List.mem_map]
  constructor
  · rintro ⟨k, hk, rfl⟩
    obtain ⟨r, hr, rfl⟩ := (lenF_keys σ k).mp hk
    exact ⟨r, hr, by simp⟩
  · rintro ⟨r, hr, rfl⟩
    exact ⟨(r.length : Int), (lenF_keys σ _).mpr ⟨r, hr, rfl⟩, by simp⟩
theorem val_lt {c : Int} {k m : Nat} (h0 : 0 < m) (h : m ≤ 1000000) : valN c k m < 2 ^ 140 := by
  unfold valN
  split
  · have h1 := Int.emod_nonneg (c - 1000000000000000000) (b := 10000000000000000000000000000000000000000) (by decide)
    have h2 := Int.emod_lt_of_pos (c - 1000000000000000000) (b := 10000000000000000000000000000000000000000) (by decide)
    have e : (10000000000000000000000000000000000000000 : Int) < 2 ^ 140 := by decide
    omega
  · exact Nat.lt_trans (draw_lt h0) (by omega)
end AO
set_option Elab.async false
set_option linter.all false
set_option maxRecDepth 100000
set_option maxHeartbeats 4000000
/-! AOTimes: the law's counts of times. -/
namespace AO
open PySem L2
def timesN (xs : List Int) (k : Nat) : Nat :=
  let d := valN (xs.getD k 0) (k + 3) 900000
  [1 + d % 7, [2, 3, 4, 6, 8, 9, 12, 30].getD (d % 8) 0, 1 + d].getD (drawN ((d % 1000000000000000000 : Nat) : Int) 4 3) 0
theorem times_ok (xs : List Int) (k : Nat) : 0 < timesN xs k ∧ timesN xs k < 2 ^ 150 := by
  unfold timesN
  dsimp only
  have hd := val_lt (c := xs.getD k 0) (k := k + 3) (m := 900000) (by omega) (by omega)
  generalize valN (xs.getD k 0) (k + 3) 900000 = d at *
  have hi := draw_lt (c := ((d % 1000000000000000000 : Nat) : Int)) (k := 4) (m := 3) (by omega)
  generalize drawN ((d % 1000000000000000000 : Nat) : Int) 4 3 = i at *
  have h8 : d % 8 < 8 := Nat.mod_lt _ (by omega)
  have h7 : d % 7 < 7 := Nat.mod_lt _ (by omega)
  generalize d % 8 = e at *
  generalize d % 7 = f at *
  have key : 0 < ([2, 3, 4, 6, 8, 9, 12, 30] : List Nat).getD e 0 ∧ ([2, 3, 4, 6, 8, 9, 12, 30] : List Nat).getD e 0 < 31 := by
    revert e
    decide
  generalize ([2, 3, 4, 6, 8, 9, 12, 30] : List Nat).getD e 0 = u at *
  match i, hi with
  | 0, _ => show 0 < 1 + f ∧ 1 + f < 2 ^ 150; omega
  | 1, _ => show 0 < u ∧ u < 2 ^ 150; omega
  | 2, _ => show 0 < 1 + d ∧ 1 + d < 2 ^ 150; omega
theorem cell_bitsD {xs : List Int} (h : CellsOk xs) (k : Nat) : bitsI (xs.getD k 0) ≤ 1048576 := by
  rw [List.getD_eq_getElem?_getD]
  by_cases h1 : k < xs.length
  · rw [List.getElem?_eq_getElem h1]
    exact h.1 _ (List.getElem_mem h1)
  · rw [List.getElem?_eq_none (by omega)]
    exact bits_mono (bits_of (n := 1) (by decide)) (by omega)
section
variable {P : Program} {w : World} {K : PySem.W.Frag} {mg : Str → Option Value} {base : Heap} {T : List (Addr × Str)}
abbrev spTimes (T : List (Addr × Str)) : Sp := spE T (fun i : List Int × Nat => [.val (rL rI) i.1, .val rN i.2]) (fun i => CellsOk i.1 ∧ i.2 < 100) rN fun i => timesN i.1 i.2
theorem sc_law_times : FnScope ["_law_script", "_law_k", "_law_drawn"] ["_law_script", "_law_k"] (defScope s_law_times) := ⟨rfl, rfl, rfl, by decide +kernel, rfl, by decide +kernel, by decide +kernel⟩
theorem ok_times {f : Addr} {fd : FuncData} (Df : Def K mg "_law_times" s_law_times ["_law_script", "_law_k"] f fd) (B : Bn mg) (h_law_draw : Pr P w K mg base CX0 1 "_law_draw" ["_law_cell", "_law_k", "_law_many"] (spDraw T))
    (h_law_value : Pr P w K mg base CX0 2 "_law_value" ["_law_cell", "_law_k", "_law_limit"] (spValue T)) (h_law_cell_at : Pr P w K mg base CX0 1 "_law_cell_at" ["_law_script", "_law_k"] (spCell T)) :
    Pr P w K mg base CX0 (2 + 1) "_law_times" ["_law_script", "_law_k"] (spTimes T) := by
  refine fn_E Df sc_law_times (fun _ => rfl) fun cdv A outer s H E hr => ⟨_, (pss_cons (ps_set (i := 2) sc_law_times.nd rfl (.inl rfl) (pe_pr h_law_value (hr.mono (by decide)) (pa_cons (pe_pr h_law_cell_at (hr.mono (by decide)) (pa_cons (pv 0) (pa_cons (pv 1) pa_nil))) (pa_cons (pe_op op_add (pv 1) pe_int) (pa_cons pe_int pa_nil)))))
    (pss_one (ps_ret (pe_ix ix_tup (pe_tup (pa_cons (pe_op op_add pe_int (pe_op op_mod (pv 2) pe_int)) (pa_cons (pe_ix ix_tup (pe_tup (pa_cons pe_int (pa_cons pe_int (pa_cons pe_int (pa_cons pe_int (pa_cons pe_int (pa_cons pe_int (pa_cons pe_int (pa_cons pe_int pa_nil))))))))) (pe_op op_mod (pv 2) pe_int) (fun _ _ => rfl)) (pa_cons (pe_op op_add pe_int (pv 2)) pa_nil)))) (pe_pr h_law_draw (hr.mono (by decide)) (pa_cons (pe_op op_mod (pv 2) (pe_op op_pow pe_int pe_int)) (pa_cons pe_int (pa_cons pe_int pa_nil)))) (fun _ _ => rfl))))), fun i G0 H0 D hp hq hn => ?_⟩
  obtain ⟨xs, k⟩ := i
  obtain ⟨hC, hk⟩ := hp
  dsimp only at hC hk hq ⊢
  have e18 : ∀ {es : List Cell}, EvE T rI (tOp (L2.rI CPow fun i j => .int (i ^ j.toNat)) (tC (.int 10)) (tC (.int 18))) es 1000000000000000000 := ev_powK ev_int ev_int (by decide) (by decide) (by decide) (by decide)
  have hd := val_lt (c := xs.getD k 0) (k := k + 3) (m := 900000) (by omega) (by omega)
  have ht : timesN xs k = [1 + (valN (xs.getD k 0) (k + 3) 900000) % 7, [2, 3, 4, 6, 8, 9, 12, 30].getD ((valN (xs.getD k 0) (k + 3) 900000) % 8) 0, 1 + (valN (xs.getD k 0) (k + 3) 900000)].getD (drawN (((valN (xs.getD k 0) (k + 3) 900000) % 1000000000000000000 : Nat) : Int) 4 3) 0 := rfl
  refine go_seq (go_asg (ev_call (xs.getD k 0, k + 3, 900000) (ea_cons (ev_call (xs, k) (ea_cons (ev_var (i := 0) rfl) (ea_cons (ev_var (i := 1) rfl) ea_nil)) trivial) (ea_cons (ev_addN (ev_var (i := 1) rfl) (ev_k (n := 3) rfl)) (ea_cons (ev_k rfl) ea_nil))) (And.intro (cell_bitsD hC k) (And.intro (show k + 3 < 1000 by omega) (show 0 < 900000 by omega)))) (to_go ?_))
  dsimp only
  generalize valN (xs.getD k 0) (k + 3) 900000 = d at hd ht ⊢
  generalize hi : drawN ((d % 1000000000000000000 : Nat) : Int) 4 3 = j at ht
  have hj : j < 3 := by
    rw [← hi]
    exact draw_lt (by omega)
  have h8 : d % 8 < ([2, 3, 4, 6, 8, 9, 12, 30] : List Nat).length := Nat.mod_lt _ (by decide)
  have g : ∀ {l : List Nat} {k : Nat}, k < l.length → l[k]? = some (l.getD k 0) := fun {l k} hk => by
    rw [List.getD_eq_getElem?_getD, List.getElem?_eq_getElem hk]
    rfl
  refine go_ret (ev_is (ev_ixT (xs := [1 + d % 7, [2, 3, 4, 6, 8, 9, 12, 30].getD (d % 8) 0, 1 + d]) (ev_tupT (ea_cons (ev_addN (ev_k (n := 1) rfl) (ev_modN (ev_var (i := 2) rfl) (ev_k (n := 7) rfl) (by omega))) (ea_cons (ev_ixT (xs := [2, 3, 4, 6, 8, 9, 12, 30]) (ev_tupT (ea_cons (ev_k rfl) (ea_cons (ev_k rfl) (ea_cons (ev_k rfl) (ea_cons (ev_k rfl) (ea_cons (ev_k rfl) (ea_cons (ev_k rfl) (ea_cons (ev_k rfl) (ea_cons (ev_k rfl) ea_nil)))))))) (by simp)) (ev_modN (ev_var (i := 2) rfl) (ev_k (n := 8) rfl) (by omega)) (g h8)) (ea_cons (ev_addN (ev_k (n := 1) rfl) (ev_var (i := 2) rfl)) ea_nil))) (by simp))
    (ev_is (ev_call (((d % 1000000000000000000 : Nat) : Int), 4, 3) (ea_cons (ev_NI (ev_modN (ev_var (i := 2) rfl) (ev_IN e18 rfl) (by omega))) (ea_cons (ev_k rfl) (ea_cons (ev_k rfl) ea_nil))) (And.intro ?_ (And.intro (show 4 < 1000 by omega) (show 0 < 3 by omega)))) hi) (g hj)) ?_) hq
  · have := Nat.mod_lt d (show 1000000000000000000 > 0 by omega)
    exact bits_mono (bits_nat' (n := 64) (by omega)) (by omega)
  · exact ht.symm
end
end AO
set_option Elab.async false
set_option linter.all false
set_option maxRecDepth 100000
set_option maxHeartbeats 4000000
/-! AOFnE: a def's promise at its own address. -/
namespace AO
open PySem L2
section
variable {P : Program} {w : World} {K : PySem.W.Frag} {mg : Str → Option Value} {base : Heap} {T : List (Addr × Str)}
theorem fnE_at {ι ρ : Type} {x q : Str} {st : Stmt} {ps N : List Str} {f : Addr} {fd : FuncData} {k : Nat} {cs : ι → List Cell} {pre : ι → Prop} {R : Rep ρ} {g : ι → ρ} (F : FunD K x q (defArgs st) (defBody st) (defScope st) [] [] f fd) (S : FnScope N ps (defScope st)) (hl : ∀ i, (cs i).length = ps.length)
    (hb : ∀ (cdv : Value) (A : Around) (outer : List Env) (s : Shared) (H : Hp) (E : XK), Room k (A.deeper (PyProof.Rows.envOfC q (defScope st) s.heap.objs.size f cdv)) → ∃ t, PSs (cxOf CX0 P w K mg base N q (defScope st) f cdv A outer s H E).nox (defBody st) t ∧
      ∀ (i : ι) (G0 H0 : Hp) (D : Ends), pre i → (∀ v G' H', Step T G0 H0 G' H' → R.r G' v (g i) → D.rt v H') → Go T G0 H0 t D (cs i ++ List.replicate (N.length - ps.length) .no)) :
    FnOk P w K mg base CX0 (k + 1) f fd ps (spE T cs pre R g) := by
  refine F.ok S (fun vs H Q E ⟨i, G, _, _, ha, _⟩ => ha.length.trans (hl i)) fun cdv A outer s H vs Q E hr hsp => ?_
  obtain ⟨i, G, hp, m, ha, q⟩ := hsp
  obtain ⟨t, ht, hg⟩ := hb cdv A outer s H E hr
  have hlen : vs.length = ps.length := ha.length.trans (hl i)
  exact ⟨t, PSs.nox ht, hg i G H _ hp q G H _ _ (at_start m ha (by rw [hlen]))⟩
end
end AO
set_option Elab.async false
set_option linter.all false
set_option maxRecDepth 100000
set_option maxHeartbeats 4000000
/-! AOZ2: the doors, asked by functions that are handed over; the kinds of an error. -/
namespace AO
open PySem L2
/-- the functions that are handed over -/
structure FA where
  order : Addr
  any : Addr
  times : Addr
  number : Addr
  root : Addr
  turned : Addr
inductive Door
  | ord (d : Nat)
  | any (σ : List Nat)
  | tim (d : Nat) (σ : List Nat)
  | num (σ : List Nat) (t : Nat)
  | root (σ : List Nat) (t : Nat)
  | tur (σ : List Nat)
def Door.at (fa : FA) : Door → Addr
  | .ord _ => fa.order
  | .any _ => fa.any
  | .tim _ _ => fa.times
  | .num _ _ => fa.number
  | .root _ _ => fa.root
  | .tur _ => fa.turned
def Door.c1 : Door → Cell
  | .ord d => .val rN d
  | .any σ => .val (rL rN) σ
  | .tim d σ => .val (rP rN (rL rN)) (d, σ)
  | .num σ t => .val (rP (rL rN) rN) (σ, t)
  | .root σ t => .val (rP (rL rN) rN) (σ, t)
  | .tur σ => .val (rL rN) σ
def Door.ok : Door → Th → Prop
  | .ord d, x => d < 9 ∧ okT x ∧ isOrdT x = false
  | .any σ, x => OkO σ ∧ badT x false
  | .tim d σ, x => d < 4 ∧ OkO σ ∧ badT x true
  | .num σ t, x => OkT1 σ t ∧ badN σ t x
  | .root σ t, x => OkT1 σ t ∧ badR σ t x
  | .tur σ, x => OkO σ ∧ ∃ τ, x = lstN τ ∧ OkO τ ∧ σ.length ≠ τ.length
def Door.err : Door → Err
  | .ord _ => .bo
  | .any _ => .bt
  | .tim _ _ => .bt
  | .num _ _ => .bn
  | .root _ _ => .nr
  | .tur _ => .ot
def kindsL (x : Err) : List Bool := [decide (x = .bo), decide (x = .bt), decide (x = .bn), decide (x = .nr), decide (x = .ot), true]
theorem pss_some {X : Cx} {b : List Stmt} {ι : Type} {p : ι → Prop} {t : ι → TS} (h : ∀ i, p i → PSs X b (t i)) : PSs X b (fun D σ H => ∃ i, p i ∧ t i D σ H) := ⟨fun pins s σ H D I ⟨i, hp, hh⟩ => (h i hp).run pins s σ H D I hh⟩
theorem zn_at {cls : Value} {d : Option Addr} {oe : Obj} {C : Addr} (h : L2N.Zn cls d oe) (e1 : cls = .ref C) (e2 : d = none) : L2N.Zn (.ref C) none oe := by
  subst e1 e2
  exact h
theorem zn_ctx {cls : Value} {d : Option Addr} {oe : Obj} (h : L2N.Zn cls d oe) (hf : ∃ vs, oe.data = .fields vs) : ∃ vs : Array Value, oe.data = .fields vs ∧ vs[2]? = some .none := by
  obtain ⟨vs, hv⟩ := hf
  exact ⟨vs, hv, h.2.2 vs hv⟩
section
variable {T : List (Addr × Str)} {G0 H0 : Hp} {es : List Cell} {ι α β : Type} {ta tr : TA} {R : Rep α} {S : Rep β} {x : α} {y : β} {c : Cell} {cs : List Cell}
theorem ea_cell {i : Nat} (hv : ∃ (γ : Type) (U : Rep γ) (z : γ), c = .val U z) (h : es[i]? = some c) (hr : EvA T tr es cs) : EvA T (tCons (tVar i) tr) es (c :: cs) := by
  obtain ⟨γ, U, z, rfl⟩ := hv
  exact ea_cons (ev_var h) hr
theorem ea_sub2 (h : EvA T ta es [c, .val R x]) (s : Sub R x S y) : EvA T ta es [c, .val S y] := fun G0 H0 G H σ F m Q q => h G0 H0 G H σ F m Q fun vs G1 H1 s1 ha => q vs G1 H1 s1 (by
  cases ha with
  | cons a t =>
    cases t with
    | cons b t =>
      cases t
      obtain ⟨v, e, hr⟩ := b
      exact .cons a (.cons ⟨v, e, s _ _ hr⟩ .nil))
theorem door_val (D : Door) : ∃ (γ : Type) (U : Rep γ) (z : γ), D.c1 = .val U z := by
  cases D <;> exact ⟨_, _, _, rfl⟩
end
section
variable {P : Program} {w : World} {K : PySem.W.Frag} {mg : Str → Option Value} {base : Heap} {T : List (Addr × Str)} {e : EA}
abbrev spWO (T : List (Addr × Str)) (e : EA) : Sp := spR T (fun i : Nat × Th => [.val rN i.1, .val rTh i.2]) (fun i => i.1 < 9 ∧ okT i.2 ∧ isOrdT i.2 = false) fun _ => e.BO
abbrev spWA (T : List (Addr × Str)) (e : EA) : Sp := spR T (fun i : List Nat × Th => [.val (rL rN) i.1, .val rTh i.2]) (fun i => OkO i.1 ∧ badT i.2 false) fun _ => e.BT
abbrev spWT (T : List (Addr × Str)) (e : EA) : Sp := spR T (fun i : (Nat × List Nat) × Th => [.val (rP rN (rL rN)) i.1, .val rTh i.2]) (fun i => i.1.1 < 4 ∧ OkO i.1.2 ∧ badT i.2 true) fun _ => e.BT
abbrev spWN (T : List (Addr × Str)) (e : EA) (N : List Nat → Nat → Th → Prop) (C : Addr) : Sp := spR T (fun i : (List Nat × Nat) × Th => [.val (rP (rL rN) rN) i.1, .val rTh i.2]) (fun i => OkT1 i.1.1 i.1.2 ∧ N i.1.1 i.1.2 i.2) fun _ => C
theorem sc_law_with_order : FnScope ["_law_door", "_law_order_here"] ["_law_door", "_law_order_here"] (defScope s_law_with_order) := ⟨rfl, rfl, rfl, by decide +kernel, rfl, by decide +kernel, by decide +kernel⟩
theorem ok_with_order {f : Addr} {fd : FuncData} (Df : Def K mg "_law_with_order" s_law_with_order ["_law_door", "_law_order_here"] f fd) (B : Bn mg) (x_rings_in : Pr P w K mg base (L2N.CX P w) 4 "rings_in" ["order"] (spBadO T e.BO)) (x_back : Pr P w K mg base (L2N.CX P w) 4 "back" ["order"] (spBadO T e.BO))
    (x_done_again : Pr P w K mg base (L2N.CX P w) 4 "done_again" ["order", "times"] (spBad2 T e false)) (x_told : Pr P w K mg base (L2N.CX P w) 6 "told" ["order", "times"] (spBad2 T e true)) (x_how_many : Pr P w K mg base (L2N.CX P w) 6 "how_many" ["order", "times"] (spBad2 T e true))
    (x_root_by : Pr P w K mg base (L2N.CX P w) 6 "root_by" ["order", "times", "number"] (spBad3 T e badN .bn)) (x_number_of : Pr P w K mg base (L2N.CX P w) 5 "number_of" ["order", "times", "root"] (spBad3 T e badR .nr)) (x_turned : Pr P w K mg base (L2N.CX P w) 5 "turned" ["one", "other"] (spBad4 T e)) :
    Pr P w K mg base (L2N.CX P w) (6 + 1) "_law_with_order" ["_law_door", "_law_order_here"] (spWO T e) := by
  refine fn_R Df sc_law_with_order (fun _ => rfl) fun cdv A outer s H E hr => ⟨_, (pss_cons (ps_if (pt_cmpR op_lt (pv 0) pe_int (nomark _)) (pss_one (ps_ret (pe_ifExp (pt_cmpR op_eq (pv 0) pe_int (nomark _)) (pe_prS x_rings_in (hr.mono (by decide)) (L2N.takes_of (E := E) rfl rfl rfl rfl) (pa_cons (pv 1) pa_nil)) (pe_ifExp (pt_cmpR op_eq (pv 0) pe_int (nomark _)) (pe_prS x_back (hr.mono (by decide)) (L2N.takes_of (E := E) rfl rfl rfl rfl) (pa_cons (pv 1) pa_nil)) (pe_prS x_done_again (hr.mono (by decide)) (L2N.takes_of (E := E) rfl rfl rfl rfl) (pa_cons (pv 1) (pa_cons pe_non pa_nil))))))) (pss_nil))
    (pss_cons (ps_if (pt_cmpR op_lt (pv 0) pe_int (nomark _)) (pss_one (ps_ret (pe_ifExp (pt_cmpR op_eq (pv 0) pe_int (nomark _)) (pe_prS x_told (hr.mono (by decide)) (L2N.takes_of (E := E) rfl rfl rfl rfl) (pa_cons (pv 1) (pa_cons pe_int pa_nil))) (pe_prS x_how_many (hr.mono (by decide)) (L2N.takes_of (E := E) rfl rfl rfl rfl) (pa_cons (pv 1) (pa_cons pe_non pa_nil)))))) (pss_nil))
    (pss_cons (ps_if (pt_cmpR op_lt (pv 0) pe_int (nomark _)) (pss_one (ps_ret (pe_ifExp (pt_cmpR op_eq (pv 0) pe_int (nomark _)) (pe_prS x_root_by (hr.mono (by decide)) (L2N.takes_of (E := E) rfl rfl rfl rfl) (pa_cons (pv 1) (pa_cons pe_int (pa_cons (pe_un un_neg pe_int) pa_nil)))) (pe_prS x_number_of (hr.mono (by decide)) (L2N.takes_of (E := E) rfl rfl rfl rfl) (pa_cons (pv 1) (pa_cons pe_int (pa_cons pe_non pa_nil))))))) (pss_nil))
    (pss_one (ps_ret (pe_ifExp (pt_cmpR op_eq (pv 0) pe_int (nomark _)) (pe_prS x_turned (hr.mono (by decide)) (L2N.takes_of (E := E) rfl rfl rfl rfl) (pa_cons (pv 1) (pa_cons (pe_lst (pa_cons pe_int pa_nil)) pa_nil))) (pe_prS x_turned (hr.mono (by decide)) (L2N.takes_of (E := E) rfl rfl rfl rfl) (pa_cons (pe_lst (pa_cons pe_int pa_nil)) (pa_cons (pv 1) pa_nil))))))))), fun i G0 H0 D hp hq => ?_⟩
  obtain ⟨d, x⟩ := i
  obtain ⟨h9, hx⟩ := hp
  have eD : ∀ {es : List Cell}, es[0]? = some (.val rN d) → EvE T rN (tVar 0) es d := fun h => ev_var h
  have z0 : ∀ {es : List Cell}, EvE T rTh (tC (.int 0)) es (.el (.int 0)) := ev_thInt ev_int
  have z1 : ∀ {es : List Cell}, EvE T rTh (tUn (L2.rU fun i => .int (-i)) (tC (.int 1))) es (.el (.int (-1))) := ev_thInt (ev_negI ev_int)
  have k0 : OkO [0] := ⟨by unfold IsP; decide, by decide⟩
  have tl : EvE T (rL rN) (tLst (tCons (tC (.int 0)) tNil)) ([.val rN d, .val rTh x] ++ List.replicate 0 .no) [0] := ev_frz frz_L (eo_lst (ea_cons (ev_k rfl) ea_nil) (by simp))
  refine go_seq (go_if (b := decide (d < 3)) (eb_test (ev_ltN (eD rfl) (ev_k (n := 3) rfl))) (fun _ => ?_) fun _ => go_next (to_go ?_))
  · exact go_retX (thr_if (b := decide (d = 0)) (eb_test (ev_eqN (eD rfl) (ev_k (n := 0) rfl))) (fun _ => thr_R x (ea_cons (ev_var (i := 1) rfl) ea_nil) hx rfl) fun _ => thr_if (b := decide (d = 1)) (eb_test (ev_eqN (eD rfl) (ev_k (n := 1) rfl))) (fun _ => thr_R x (ea_cons (ev_var (i := 1) rfl) ea_nil) hx rfl) fun _ => thr_R (.ord x (.el .non)) (ea_cons (ev_var (i := 1) rfl) (ea_cons ev_thNon ea_nil)) hx rfl) hq
  refine go_seq (go_if (b := decide (d < 5)) (eb_test (ev_ltN (eD rfl) (ev_k (n := 5) rfl))) (fun _ => ?_) fun _ => go_next (to_go ?_))
  · exact go_retX (thr_if (b := decide (d = 3)) (eb_test (ev_eqN (eD rfl) (ev_k (n := 3) rfl))) (fun _ => thr_R (.ord x (.el (.int 0))) (ea_cons (ev_var (i := 1) rfl) (ea_cons z0 ea_nil)) hx rfl) fun _ => thr_R (.ord x (.el .non)) (ea_cons (ev_var (i := 1) rfl) (ea_cons ev_thNon ea_nil)) hx rfl) hq
  refine go_seq (go_if (b := decide (d < 7)) (eb_test (ev_ltN (eD rfl) (ev_k (n := 7) rfl))) (fun _ => ?_) fun _ => go_next (to_go ?_))
  · exact go_retX (thr_if (b := decide (d = 5)) (eb_test (ev_eqN (eD rfl) (ev_k (n := 5) rfl))) (fun _ => thr_R (.ord x (.el (.int 0)) (.el (.int (-1)))) (ea_cons (ev_var (i := 1) rfl) (ea_cons z0 (ea_cons z1 ea_nil))) hx rfl) fun _ => thr_R (.ord x (.el (.int 0)) (.el .non)) (ea_cons (ev_var (i := 1) rfl) (ea_cons z0 (ea_cons ev_thNon ea_nil))) hx rfl) hq
  · exact go_retX (thr_if (b := decide (d = 7)) (eb_test (ev_eqN (eD rfl) (ev_k (n := 7) rfl))) (fun _ => thr_R (.one x (lstN [0])) (ea_cons (ev_var (i := 1) rfl) (ea_cons (ev_thN tl) ea_nil)) hx rfl) fun _ => thr_R (.two [0] x) (ea_cons tl (ea_cons (ev_var (i := 1) rfl) ea_nil)) (And.intro k0 hx) rfl) hq
theorem sc_law_with_any : FnScope ["_law_order_here", "_law_times_here"] ["_law_order_here", "_law_times_here"] (defScope s_law_with_any) := ⟨rfl, rfl, rfl, by decide +kernel, rfl, by decide +kernel, by decide +kernel⟩
theorem ok_with_any {f : Addr} {fd : FuncData} (Df : Def K mg "_law_with_any" s_law_with_any ["_law_order_here", "_law_times_here"] f fd) (B : Bn mg) (x_done_again : Pr P w K mg base (L2N.CX P w) 4 "done_again" ["order", "times"] (spBad2 T e false)) :
    Pr P w K mg base (L2N.CX P w) (4 + 1) "_law_with_any" ["_law_order_here", "_law_times_here"] (spWA T e) := by
  refine fn_R Df sc_law_with_any (fun _ => rfl) fun cdv A outer s H E hr => ⟨_, (pss_one (ps_ret (pe_prS x_done_again (hr.mono (by decide)) (L2N.takes_of (E := E) rfl rfl rfl rfl) (pa_cons (pv 0) (pa_cons (pv 1) pa_nil))))), fun i G0 H0 D hp hq => ?_⟩
  exact go_retX (thr_R (.tim i.1 i.2) (ea_cons (ev_var (i := 0) rfl) (ea_cons (ev_var (i := 1) rfl) ea_nil)) hp rfl) hq
theorem sc_law_with_times : FnScope ["_law_where", "_law_times_here", "_law_door", "_law_order_here"] ["_law_where", "_law_times_here"] (defScope s_law_with_times) := ⟨rfl, rfl, rfl, by decide +kernel, rfl, by decide +kernel, by decide +kernel⟩
theorem ok_with_times {f : Addr} {fd : FuncData} (Df : Def K mg "_law_with_times" s_law_with_times ["_law_where", "_law_times_here"] f fd) (B : Bn mg) (x_told : Pr P w K mg base (L2N.CX P w) 6 "told" ["order", "times"] (spBad2 T e true)) (x_how_many : Pr P w K mg base (L2N.CX P w) 6 "how_many" ["order", "times"] (spBad2 T e true))
    (x_root_by : Pr P w K mg base (L2N.CX P w) 6 "root_by" ["order", "times", "number"] (spBad3 T e badN .bn)) (x_number_of : Pr P w K mg base (L2N.CX P w) 5 "number_of" ["order", "times", "root"] (spBad3 T e badR .nr)) :
    Pr P w K mg base (L2N.CX P w) (6 + 1) "_law_with_times" ["_law_where", "_law_times_here"] (spWT T e) := by
  refine fn_R Df sc_law_with_times (fun _ => rfl) fun cdv A outer s H E hr => ⟨_, (pss_cons (ps_asg (pv 0) (pg_tup rfl (pgs_cons (pg_name (i := 2) sc_law_with_times.nd rfl (.inl rfl)) (pgs_cons (pg_name (i := 3) sc_law_with_times.nd rfl (.inl rfl)) pgs_nil))))
    (pss_cons (ps_if (pt_cmpR op_lt (pv 2) pe_int (nomark _)) (pss_one (ps_ret (pe_ifExp (pt_cmpR op_eq (pv 2) pe_int (nomark _)) (pe_prS x_told (hr.mono (by decide)) (L2N.takes_of (E := E) rfl rfl rfl rfl) (pa_cons (pv 3) (pa_cons (pv 1) pa_nil))) (pe_prS x_how_many (hr.mono (by decide)) (L2N.takes_of (E := E) rfl rfl rfl rfl) (pa_cons (pv 3) (pa_cons (pv 1) pa_nil)))))) (pss_nil))
    (pss_one (ps_ret (pe_ifExp (pt_cmpR op_eq (pv 2) pe_int (nomark _)) (pe_prS x_root_by (hr.mono (by decide)) (L2N.takes_of (E := E) rfl rfl rfl rfl) (pa_cons (pv 3) (pa_cons (pv 1) (pa_cons (pe_un un_neg pe_int) pa_nil)))) (pe_prS x_number_of (hr.mono (by decide)) (L2N.takes_of (E := E) rfl rfl rfl rfl) (pa_cons (pv 3) (pa_cons (pv 1) (pa_cons pe_non pa_nil))))))))), fun i G0 H0 D hp hq => ?_⟩
  obtain ⟨⟨d, σ⟩, x⟩ := i
  obtain ⟨h4, hx⟩ := hp
  have z1 : ∀ {es : List Cell}, EvE T rTh (tUn (L2.rU fun i => .int (-i)) (tC (.int 1))) es (.el (.int (-1))) := ev_thInt (ev_negI ev_int)
  refine go_seq (go_asgG (R := rP rN (rL rN)) (x := (d, σ)) (ev_var (i := 0) rfl) (tg_tup (R := rN) (S := rL rN) tg_name tg_name) (to_go ?_))
  have eD : ∀ {es : List Cell}, es[2]? = some (.val rN d) → EvE T rN (tVar 2) es d := fun h => ev_var h
  refine go_seq (go_if (b := decide (d < 2)) (eb_test (ev_ltN (eD rfl) (ev_k (n := 2) rfl))) (fun _ => ?_) fun _ => go_next (to_go ?_))
  · exact go_retX (thr_if (b := decide (d = 0)) (eb_test (ev_eqN (eD rfl) (ev_k (n := 0) rfl))) (fun _ => thr_R (.tim σ x) (ea_cons (ev_var (i := 3) rfl) (ea_cons (ev_var (i := 1) rfl) ea_nil)) hx rfl) fun _ => thr_R (.tim σ x) (ea_cons (ev_var (i := 3) rfl) (ea_cons (ev_var (i := 1) rfl) ea_nil)) hx rfl) hq
  · exact go_retX (thr_if (b := decide (d = 2)) (eb_test (ev_eqN (eD rfl) (ev_k (n := 2) rfl))) (fun _ => thr_R (.tim σ x (.el (.int (-1)))) (ea_cons (ev_var (i := 3) rfl) (ea_cons (ev_var (i := 1) rfl) (ea_cons z1 ea_nil))) hx rfl) fun _ => thr_R (.tim σ x (.el .non)) (ea_cons (ev_var (i := 3) rfl) (ea_cons (ev_var (i := 1) rfl) (ea_cons ev_thNon ea_nil))) hx rfl) hq
theorem sc_law_with_number : FnScope ["_law_where", "_law_number", "_law_order_here", "_law_times_here"] ["_law_where", "_law_number"] (defScope s_law_with_number) := ⟨rfl, rfl, rfl, by decide +kernel, rfl, by decide +kernel, by decide +kernel⟩
theorem ok_with_number {f : Addr} {fd : FuncData} (Df : Def K mg "_law_with_number" s_law_with_number ["_law_where", "_law_number"] f fd) (B : Bn mg) (x_root_by : Pr P w K mg base (L2N.CX P w) 6 "root_by" ["order", "times", "number"] (spBad3 T e badN .bn)) :
    Pr P w K mg base (L2N.CX P w) (6 + 1) "_law_with_number" ["_law_where", "_law_number"] (spWN T e badN e.BN) := by
  refine fn_R Df sc_law_with_number (fun _ => rfl) fun cdv A outer s H E hr => ⟨_, (pss_cons (ps_asg (pv 0) (pg_tup rfl (pgs_cons (pg_name (i := 2) sc_law_with_number.nd rfl (.inl rfl)) (pgs_cons (pg_name (i := 3) sc_law_with_number.nd rfl (.inl rfl)) pgs_nil))))
    (pss_one (ps_ret (pe_prS x_root_by (hr.mono (by decide)) (L2N.takes_of (E := E) rfl rfl rfl rfl) (pa_cons (pv 2) (pa_cons (pv 3) (pa_cons (pv 1) pa_nil))))))), fun i G0 H0 D hp hq => ?_⟩
  obtain ⟨⟨σ, t⟩, x⟩ := i
  refine go_seq (go_asgG (R := rP (rL rN) rN) (x := (σ, t)) (ev_var (i := 0) rfl) (tg_tup (R := rL rN) (S := rN) tg_name tg_name) (to_go ?_))
  exact go_retX (thr_R (.num σ t x) (ea_cons (ev_var (i := 2) rfl) (ea_cons (ev_var (i := 3) rfl) (ea_cons (ev_var (i := 1) rfl) ea_nil))) hp rfl) hq
theorem sc_law_with_root : FnScope ["_law_where", "_law_root", "_law_order_here", "_law_times_here"] ["_law_where", "_law_root"] (defScope s_law_with_root) := ⟨rfl, rfl, rfl, by decide +kernel, rfl, by decide +kernel, by decide +kernel⟩
theorem ok_with_root {f : Addr} {fd : FuncData} (Df : Def K mg "_law_with_root" s_law_with_root ["_law_where", "_law_root"] f fd) (B : Bn mg) (x_number_of : Pr P w K mg base (L2N.CX P w) 5 "number_of" ["order", "times", "root"] (spBad3 T e badR .nr)) :
    Pr P w K mg base (L2N.CX P w) (5 + 1) "_law_with_root" ["_law_where", "_law_root"] (spWN T e badR e.NR) := by
  refine fn_R Df sc_law_with_root (fun _ => rfl) fun cdv A outer s H E hr => ⟨_, (pss_cons (ps_asg (pv 0) (pg_tup rfl (pgs_cons (pg_name (i := 2) sc_law_with_root.nd rfl (.inl rfl)) (pgs_cons (pg_name (i := 3) sc_law_with_root.nd rfl (.inl rfl)) pgs_nil))))
    (pss_one (ps_ret (pe_prS x_number_of (hr.mono (by decide)) (L2N.takes_of (E := E) rfl rfl rfl rfl) (pa_cons (pv 2) (pa_cons (pv 3) (pa_cons (pv 1) pa_nil))))))), fun i G0 H0 D hp hq => ?_⟩
  obtain ⟨⟨σ, t⟩, x⟩ := i
  refine go_seq (go_asgG (R := rP (rL rN) rN) (x := (σ, t)) (ev_var (i := 0) rfl) (tg_tup (R := rL rN) (S := rN) tg_name tg_name) (to_go ?_))
  exact go_retX (thr_R (.num σ t x) (ea_cons (ev_var (i := 2) rfl) (ea_cons (ev_var (i := 3) rfl) (ea_cons (ev_var (i := 1) rfl) ea_nil))) hp rfl) hq
end
end AO
set_option Elab.async false
set_option linter.all false
set_option maxRecDepth 100000
set_option maxHeartbeats 4000000
/-! AOZ3: a door asked and its refusal's kinds told; all things of a list. -/
namespace AO
open PySem L2
structure PrZ (P : Program) (w : World) (K : PySem.W.Frag) (mg : Str → Option Value) (base : Heap) (k : Nat) (x : Str) (ps : List Str) (Z : Obj → Prop) (sp : Addr → Sp) : Prop where
  ex : ∃ f fd, mg x = some (.ref f) ∧ PySem.W.keepIn K (.ref f) = true ∧ Binds K fd ps [] ∧ FnZ P w K mg base k f fd ps Z sp
theorem pe_prZ {X : Cx} {k : Nat} {x : Str} {ps : List Str} {q pos : Pos} {e : Expr} {es : List Expr} {t : TA} {a : Addr} {oe : Obj} {pn : List (Addr × Obj)} {Z : Obj → Prop} {sp : Addr → Sp} (h : PrZ X.prog X.w X.K X.mg X.base k x ps Z sp) (hr : Room k X.A) (hz : Z oe) (hn : ∃ vs : Array Value, oe.data = .fields vs ∧ vs[2]? = some .none)
    (ha : PA (X.suite a ((a, oe) :: pn)) (e :: es) t) (hg : Gl X x := by rfl) (hdb : (x == ("__debug__" : Str)) = false := by decide) (he : starEach (e :: es) X.env = (false, eval e X.env) :: starEach es X.env := by rfl) (hpl : (backTo pos (starEach es X.env)).any (·.1) = false := by rfl) :
    PE (X.suite a ((a, oe) :: pn)) (.Call (.Name x q) (e :: es) [] pos) (tCall (sp a) [] E0 t) := by
  obtain ⟨f, fd, gf, kf, bf, F⟩ := h.ex
  exact pe_callZ F hr hz hn hg gf kf bf ha hdb he hpl
section
variable {T : List (Addr × Str)} {G0 H0 : Hp} {es : List Cell} {ι : Type} {ta : TA} {D : Ends} {K : PySem.W.Frag}
theorem ev_isET {i : Nat} {D0 a : Addr} {n : String} {b : Bool} (h : es[i]? = some (.val (rAd a) ())) (hk : PySem.W.kitOne K (.ref D0) (.type n) = some b) : EvE T rB (tCB (rIsE K D0 a) (tCons (tVar i) (tCons (tC (.ty n)) tNil))) es b := fun G0 H0 G H σ F m Q q => by
  obtain ⟨v, hv, hr⟩ := m.val h
  obtain rfl : v = .ref a := hr
  exact ⟨_, hv, .ty n, .type n, b, rfl, fun u hu => hu, hk, q _ G H (Step.refl m.m) rfl⟩
theorem go_start {G H : Hp} {N : List Str} {vs : List V} {cs : List Cell} {t : TS} {n : Nat} (m : Mid T G H) (ha : HoldA G vs cs) (hn : N.length - vs.length = n) (k : Go T G H t D (cs ++ List.replicate n .no)) : t D (L2.start N vs) H := k G H _ _ (at_start m ha hn)
theorem go_some {p : ι → Prop} {t : ι → TS} (i : ι) (hp : p i) (h : Go T G0 H0 (t i) D es) : Go T G0 H0 (fun D σ H => ∃ i, p i ∧ t i D σ H) D es := fun G H σ F m => ⟨i, hp, h G H σ F m⟩
/-- try: ask(..) / except O as e: suite, ask's def raises -/
theorem go_tryA {i j : Nat} {O : Value} {ts : Addr → Value → Option Addr → TS} {W0 : WX} {A : Addr → Sp → Prop} {f : Addr} {cs : ι → List Cell} {pre : ι → Prop} {C : ι → Addr} (n : ι) (hf : es[j]? = some (.val (rAd f) ())) (hA : EvA T ta es (cs n)) (hs : A f (spR T cs pre C)) (hp : pre n) (hx : PySem.W.exmOne K (.ref (C n)) O = some true)
    (k : ∀ (a : Addr) (D' : Ends), D'.rt = D.rt → Go T G0 H0 (ts a (.ref (C n)) none) D' (es.set i (.val (rAd a) ()))) : Go T G0 H0 (fun D σ H => tDrop (tAsk j A (WE (wAs K O i ts W0 D)) ta) D σ H) D es := fun G H σ F m => by
  obtain ⟨v, hv, hr⟩ := m.val hf
  obtain rfl : v = .ref f := hr
  exact ⟨f, _, hv, hs, hA G0 H0 G H σ F m _ fun vs G1 H1 s1 ha => ⟨n, G1, hp, s1.m, ha, fun G2 H2 s2 => ⟨true, hx, fun _ a _ => k a { nx := fun σ' H' => D.nx (σ'.set i none) H', rt := D.rt, bk := fun σ' H' => D.bk (σ'.set i none) H', ct := fun σ' H' => D.ct (σ'.set i none) H' } rfl G2 H2 _ _ ((((m.step s1).step s2)).set i (show (rAd a).r G2 (.ref a) () from rfl)), fun z => nomatch z⟩⟩⟩
end
section
variable {P : Program} {w : World} {K : PySem.W.Frag} {mg : Str → Option Value} {base : Heap} {T : List (Addr × Str)} {e : EA} {fa : FA}
abbrev spKd (T : List (Addr × Str)) (x : Err) (a : Addr) : Sp := spE T (fun _ : Unit => [.val (rAd a) ()]) (fun _ => True) (rL rB) fun _ => kindsL x
abbrev zKd (e : EA) (x : Err) (o : Obj) : Prop := L2N.Zn (.ref (x.ad e)) none o ∧ ∃ vs, o.data = .fields vs
abbrev spTold (T : List (Addr × Str)) (fa : FA) : Sp := spE T (fun i : Door × Th => [.val (rAd (i.1.at fa)) (), i.1.c1, .val rTh i.2]) (fun i => i.1.ok i.2) (rL rB) fun i => kindsL i.1.err
abbrev spAll (T : List (Addr × Str)) (fa : FA) : Sp := spE T (fun i : Door × List Th => [.val (rAd (i.1.at fa)) (), i.1.c1, .val (rL rTh) i.2, .val (rL rB) (kindsL i.1.err)]) (fun i => (∀ x ∈ i.2, i.1.ok x) ∧ i.2.length ≤ 1000) rB fun _ => true
theorem sc_law_kinds : FnScope ["_law_error", "_law_found"] ["_law_error"] (defScope s_law_kinds) := ⟨rfl, rfl, rfl, by decide +kernel, rfl, by decide +kernel, by decide +kernel⟩
theorem ok_kinds {f : Addr} {fd : FuncData} (Df : Def K mg "_law_kinds" s_law_kinds ["_law_error"] f fd) (B : Bn mg) (XF : ErrF K mg e) (hVE : mg "ValueError" = none) (x : Err) :
    PrZ P w K mg base (0 + 1) "_law_kinds" ["_law_error"] (zKd e x) (spKd T x) := by
  refine ⟨_, _, Df.g, Df.F.kp, Df.b, fn_Z Df sc_law_kinds (fun a vs H Q E ⟨_, G, _, _, ha, _⟩ => ha.length) fun cdv p A outer s H vs Q E hzf hr hsp => ?_⟩
  obtain ⟨a, oe⟩ := p
  obtain ⟨hz, hf⟩ := hzf
  dsimp only at hz hf hsp
  refine ⟨_, (pss_cons (ps_set (i := 1) sc_law_kinds.nd rfl (.inl rfl) (pe_lst (pa_cons (pe_callB (call_isZ (XF.ec x) hz hf (List.mem_singleton.mpr rfl)) (by rfl) B.isinstance (by decide +kernel) (pa_cons (pv 0) (pa_cons (pe_glob (v := .ref (Err.bo.ad e)) rfl (XF.g Err.bo) rfl) pa_nil))) (pa_cons (pe_callB (call_isZ (XF.ec x) hz hf (List.mem_singleton.mpr rfl)) (by rfl) B.isinstance (by decide +kernel) (pa_cons (pv 0) (pa_cons (pe_glob (v := .ref (Err.bt.ad e)) rfl (XF.g Err.bt) rfl) pa_nil))) (pa_cons (pe_callB (call_isZ (XF.ec x) hz hf (List.mem_singleton.mpr rfl)) (by rfl) B.isinstance (by decide +kernel) (pa_cons (pv 0) (pa_cons (pe_glob (v := .ref (Err.bn.ad e)) rfl (XF.g Err.bn) rfl) pa_nil))) pa_nil)))))
    (pss_one (ps_ret (pe_op op_cat (pv 1) (pe_lst (pa_cons (pe_callB (call_isZ (XF.ec x) hz hf (List.mem_singleton.mpr rfl)) (by rfl) B.isinstance (by decide +kernel) (pa_cons (pv 0) (pa_cons (pe_glob (v := .ref (Err.nr.ad e)) rfl (XF.g Err.nr) rfl) pa_nil))) (pa_cons (pe_callB (call_isZ (XF.ec x) hz hf (List.mem_singleton.mpr rfl)) (by rfl) B.isinstance (by decide +kernel) (pa_cons (pv 0) (pa_cons (pe_glob (v := .ref (Err.ot.ad e)) rfl (XF.g Err.ot) rfl) pa_nil))) (pa_cons (pe_callB (call_isZ (XF.ec x) hz hf (List.mem_singleton.mpr rfl)) (by rfl) B.isinstance (by decide +kernel) (pa_cons (pv 0) (pa_cons (pe_bltn (v := .ty "ValueError") (by rfl) hVE boot_ValueError rfl) pa_nil))) pa_nil)))))))), ?_⟩
  obtain ⟨_, G, _, m, ha, q⟩ := hsp
  refine go_start (n := 1) m ha (by rw [ha.length]; rfl) ?_
  refine go_seq (go_asg (R := rL rB) (x := [decide (x = .bo), decide (x = .bt), decide (x = .bn)]) (ev_frz frz_L (eo_lst (R := rB) (ea_cons (ev_isE (i := 0) rfl (XF.kit x .bo)) (ea_cons (ev_isE (i := 0) rfl (XF.kit x .bt)) (ea_cons (ev_isE (i := 0) rfl (XF.kit x .bn)) ea_nil))) (by simp))) (to_go ?_))
  exact go_ret (ev_frz frz_L (eo_cat (xs := [decide (x = .bo), decide (x = .bt), decide (x = .bn)]) (ys := [decide (x = .nr), decide (x = .ot), true]) (ev_var (i := 1) rfl) (ev_frz frz_L (eo_lst (R := rB) (ea_cons (ev_isE (i := 0) rfl (XF.kit x .nr)) (ea_cons (ev_isE (i := 0) rfl (XF.kit x .ot)) (ea_cons (ev_isET (i := 0) rfl (XF.kitV x)) ea_nil))) (by simp))) (by simp))) fun v G' H' st r => q v G' H' st r
structure DoorOk (P : Program) (w : World) (K : PySem.W.Frag) (mg : Str → Option Value) (base : Heap) (T : List (Addr × Str)) (e : EA) (fa : FA) (k : Nat) (D : Door) (x : Th) : Prop where
  ex : ∃ (ι : Type) (cs : ι → List Cell) (pre : ι → Prop) (C : ι → Addr) (n : ι), Hd P w K mg base k (D.at fa) (spR T cs pre C) ∧ pre n ∧ C n = D.err.ad e ∧ ∀ (ta : TA) (es : List Cell), EvA T ta es [D.c1, .val rTh x] → EvA T ta es (cs n)
theorem hd_of {k : Nat} {x : Str} {ps : List Str} {sp : Sp} {f : Addr} (h : Pr P w K mg base (L2N.CX P w) k x ps sp) (g : mg x = some (.ref f)) : Hd P w K mg base k f sp := by
  obtain ⟨f', fd, a, b, c, d⟩ := h.ex
  rw [g] at a
  have e : f = f' := Value.ref.inj (Option.some.inj a)
  subst e
  exact ⟨fd, ps, d, b, c⟩
theorem doors_ok (g1 : mg "_law_with_order" = some (.ref fa.order)) (g2 : mg "_law_with_any" = some (.ref fa.any)) (g3 : mg "_law_with_times" = some (.ref fa.times)) (g4 : mg "_law_with_number" = some (.ref fa.number)) (g5 : mg "_law_with_root" = some (.ref fa.root)) (g6 : mg "turned" = some (.ref fa.turned))
    (h1 : Pr P w K mg base (L2N.CX P w) 7 "_law_with_order" ["_law_door", "_law_order_here"] (spWO T e)) (h2 : Pr P w K mg base (L2N.CX P w) 5 "_law_with_any" ["_law_order_here", "_law_times_here"] (spWA T e)) (h3 : Pr P w K mg base (L2N.CX P w) 7 "_law_with_times" ["_law_where", "_law_times_here"] (spWT T e))
    (h4 : Pr P w K mg base (L2N.CX P w) 7 "_law_with_number" ["_law_where", "_law_number"] (spWN T e badN e.BN)) (h5 : Pr P w K mg base (L2N.CX P w) 6 "_law_with_root" ["_law_where", "_law_root"] (spWN T e badR e.NR)) (h6 : Pr P w K mg base (L2N.CX P w) 5 "turned" ["one", "other"] (spBad4 T e)) :
    ∀ D x, Door.ok D x → DoorOk P w K mg base T e fa 7 D x := by
  intro D x h
  cases D with
  | ord d => exact ⟨_, _, _, _, (d, x), hd_of (h1.mono (by decide)) g1, h, rfl, fun _ _ z => z⟩
  | any σ => exact ⟨_, _, _, _, (σ, x), hd_of (h2.mono (by decide)) g2, h, rfl, fun _ _ z => z⟩
  | tim d σ => exact ⟨_, _, _, _, ((d, σ), x), hd_of (h3.mono (by decide)) g3, h, rfl, fun _ _ z => z⟩
  | num σ t => exact ⟨_, _, _, _, ((σ, t), x), hd_of (h4.mono (by decide)) g4, h, rfl, fun _ _ z => z⟩
  | root σ t => exact ⟨_, _, _, _, ((σ, t), x), hd_of (h5.mono (by decide)) g5, h, rfl, fun _ _ z => z⟩
  | tur σ =>
    obtain ⟨hσ, τ, rfl, hτ, hne⟩ := h
    exact ⟨_, _, _, _, I4.len σ τ, hd_of (h6.mono (by decide)) g6, ⟨hσ, hτ, hne⟩, rfl, fun _ _ z => ea_sub2 z (sub_TLN τ)⟩
theorem sc_law_told : FnScope ["_law_ask", "_law_one", "_law_other", "_law_error"] ["_law_ask", "_law_one", "_law_other"] (defScope s_law_told) := ⟨rfl, rfl, rfl, by decide +kernel, rfl, by decide +kernel, by decide +kernel⟩
theorem ok_ltold {f : Addr} {fd : FuncData} (Df : Def K mg "_law_told" s_law_told ["_law_ask", "_law_one", "_law_other"] f fd) (B : Bn mg) (XF : ErrF K mg e) (h_law_kinds : ∀ x : Err, PrZ P w K mg base 1 "_law_kinds" ["_law_error"] (zKd e x) (spKd T x)) (doors : ∀ D x, Door.ok D x → DoorOk P w K mg base T e fa 7 D x) :
    Pr P w K mg base CX0 (7 + 1) "_law_told" ["_law_ask", "_law_one", "_law_other"] (spTold T fa) := by
  refine fn_E Df sc_law_told (fun _ => rfl) fun cdv A outer s H E hr => ⟨_, (pss_cons (L2N.ps_try_as (i := 3) rfl rfl sc_law_told.nd rfl rfl ⟨rfl, by decide, .inl XF.gO⟩ takesN0 (fun W pn xe tk _ => (pss_one (ps_expr (pe_ask (i := 0) (A := fun f sp => Hd P w K mg base 7 f sp) (fun _ _ h => h) (hr.mono (by decide)) tk rfl (.inl rfl) (pa_cons (pv 1) (pa_cons (pv 2) pa_nil)))))) (fun a oe cls d pn hz hf => pss_some (p := fun x : Err => cls = .ref (x.ad e) ∧ d = none) fun x hp => (pss_one (ps_ret (pe_prZ (h_law_kinds x) (hr.mono (by decide)) ⟨zn_at hz hp.1 hp.2, hf⟩ (zn_ctx hz hf) (pa_cons (pv 3) pa_nil))))))
    (pss_one (ps_ret (pe_lst pa_nil)))), fun i G0 H0 D hp hq hn => ?_⟩
  obtain ⟨O, x⟩ := i
  obtain ⟨ι, cs, pre, C, n, hd, hpn, hC, conv⟩ := (doors O x hp).ex
  refine go_seq (go_tryA (i := 3) (j := 0) n rfl (conv _ _ (ea_cell (door_val O) rfl (ea_cons (ev_var (i := 2) rfl) ea_nil))) hd hpn (by rw [hC]; exact XF.ex _) fun a D' hD => ?_)
  refine go_some O.err ⟨by rw [hC], rfl⟩ (go_ret (ev_call () (ea_cons (ev_var (i := 3) rfl) ea_nil) trivial) ?_)
  rw [hD]
  exact hq
theorem sc_law_all : FnScope ["_law_ask", "_law_one", "_law_things", "_law_due", "_law_thing"] ["_law_ask", "_law_one", "_law_things", "_law_due"] (defScope s_law_all) := ⟨rfl, rfl, rfl, by decide +kernel, rfl, by decide +kernel, by decide +kernel⟩
theorem ok_lall {f : Addr} {fd : FuncData} (Df : Def K mg "_law_all" s_law_all ["_law_ask", "_law_one", "_law_things", "_law_due"] f fd) (B : Bn mg) (h_law_told : Pr P w K mg base CX0 8 "_law_told" ["_law_ask", "_law_one", "_law_other"] (spTold T fa)) :
    Pr P w K mg base CX0 (8 + 1) "_law_all" ["_law_ask", "_law_one", "_law_things", "_law_due"] (spAll T fa) := by
  refine fn_E Df sc_law_all (fun _ => rfl) fun cdv A outer s H E hr => ⟨_, (pss_one (ps_ret (pe_callB (cr_all rfl) (by rfl) B.all (by decide +kernel) (pa_cons (pe_lc (g := (gName 4)) (tt := tYes) (te := (tOp (rEqD K) (tCall _ [] _ (tCons (tVar 0) (tCons (tVar 1) (tCons (tVar 4) tNil)))) (tVar 3))) (own := [("_law_thing", 4)]) rfl sc_law_all.nd (pi_list (pv 2)) (blkOk_by (N := ["_law_ask", "_law_one", "_law_things", "_law_due", "_law_thing"]) (sc := defScope s_law_all) (by decide +kernel)) (fun _ _ _ _ _ => (pg_name (i := 4) sc_law_all.nd rfl (.inl rfl) (.inr rfl))) (fun _ _ _ _ _ => pts_nil) (fun _ _ _ _ _ => (pe_cmpR (op_eqD (un_lt64 hr)) (pe_pr h_law_told (hr.mono (by decide)) (pa_cons (pv 0) (pa_cons (pv 1) (pa_cons (pv 4) pa_nil)))) (pv 3) (nomark _)))) pa_nil)))), fun i G0 H0 D hp hq hn => ?_⟩
  obtain ⟨O, xs⟩ := i
  obtain ⟨hx, hl⟩ := hp
  dsimp only at hx hl hq
  refine go_ret (ev_is (ev_all (ev_frz frz_L (ev_lc (S := rB) (R := rTh) (xs := xs) (evi_list (ev_var (i := 2) rfl)) (by omega) (fun _ => true) (fun _ => true) fun i x hi =>
    ⟨_, tg_name, eb_yes, fun _ => ev_is (ev_eqD dt_LB (ev_call (O, x) (ea_cons (ev_var (i := 0) rfl) (ea_cell (door_val O) rfl (ea_cons (ev_var (i := 4) rfl) ea_nil))) (hx x (List.mem_of_getElem? hi))) (ev_var (R := rL rB) (x := kindsL O.err) (i := 3) rfl)) (decide_eq_true rfl)⟩))) (by rw [map_all]; simp)) hq
end
end AO
set_option Elab.async false
set_option linter.all false
set_option maxRecDepth 100000
set_option maxHeartbeats 4000000
/-! AOZ4: what are no orders; the law k05. -/
namespace AO
open PySem L2
def bad (x : Th) : Prop := okT x ∧ isOrdT x = false
theorem ordT_int {xs : List El} (h : isOrdT (.lst xs) = true) : ∃ ns : List Nat, xs = (up ns).map El.int ∧ isOrd ns = true := by
  have h : (xs.all isWE && isOrdI (xs.map elI)) = true := h
  obtain ⟨h1, h2⟩ := Bool.and_eq_true_iff.mp h
  unfold isOrdI at h2
  cases hn : natL (xs.map elI) with
  | none =>
    rw [hn] at h2
    cases h2
  | some ns =>
    rw [hn] at h2
    refine ⟨ns, ?_, h2⟩
    rw [← natL_some hn, els_int h1]
theorem ordN {σ : List Nat} (h : isOrdT (lstN σ) = true) : IsP σ ∧ σ.length ≤ 60 := by
  rw [isOrdT_lstN] at h
  have := isOrd_iff.mp h
  exact ⟨this.2, this.1⟩
theorem ok_lstN {σ : List Nat} (h : σ.length ≤ 1000) : okT (lstN σ) := by
  show ((up σ).map El.int).length ≤ 1000
  rw [List.length_map, List.length_map]
  exact h
theorem bad_lstN {σ : List Nat} (h : σ.length ≤ 1000) (hn : ¬ IsP σ) : bad (lstN σ) := ⟨ok_lstN h, by
  cases e : isOrdT (lstN σ) with
  | false => rfl
  | true => exact absurd (ordN e).1 hn⟩
theorem bad_far {σ : List Nat} (h : σ.length ≤ 100) : bad (lstN (σ ++ [σ.length + 1])) := bad_lstN (by rw [List.length_append]; simp; omega) fun hp => by
  have := hp.mem.mp (show σ.length + 1 ∈ σ ++ [σ.length + 1] by simp)
  rw [List.length_append] at this
  simp at this
theorem bad_twice {σ : List Nat} (h : σ.length ≤ 100) : bad (lstN (σ ++ [0, 0])) := bad_lstN (by rw [List.length_append]; simp; omega) fun hp => by
  have := (List.nodup_append.mp hp.nodup).2.1
  simp at this
theorem bent_bad {σ : List Nat} (hσ : OkO σ) {a : Nat} (ha : a < σ.length) {e : El} (h : ∀ m : Nat, e = .int (m : Int) → m < σ.length → ∃ j, j ≠ a ∧ σ[j]? = some m) : bad (.lst (((up σ).map El.int).take a ++ [e] ++ ((up σ).map El.int).drop (a + 1))) := by
  have hz := hσ.2
  have hl : ((up σ).map El.int).length = σ.length := by rw [List.length_map, List.length_map]
  have hs : ((up σ).map El.int).take a ++ [e] ++ ((up σ).map El.int).drop (a + 1) = ((up σ).map El.int).set a e := by
    rw [List.set_eq_take_append_cons_drop, if_pos (by rw [hl]; exact ha), List.append_assoc]
    rfl
  rw [hs]
  refine ⟨by show _ ≤ 1000; rw [List.length_set, hl]; omega, ?_⟩
  cases ho : isOrdT (.lst (((up σ).map El.int).set a e)) with
  | false => rfl
  | true =>
    obtain ⟨ns, e1, hns⟩ := ordT_int ho
    obtain ⟨hP, _⟩ : IsP ns ∧ ns.length ≤ 60 := ⟨(isOrd_iff.mp hns).2, (isOrd_iff.mp hns).1⟩
    have hnl : ns.length = σ.length := by
      have := congrArg List.length e1
      rw [List.length_set, hl, List.length_map, List.length_map] at this
      exact this.symm
    have ga : (((up σ).map El.int).set a e)[a]? = some e := by rw [List.getElem?_set_self (by rw [hl]; exact ha)]
    rw [e1, List.getElem?_map, List.getElem?_map] at ga
    obtain ⟨i, hi, e2⟩ := Option.map_eq_some_iff.mp ga
    obtain ⟨m, hm, e3⟩ := Option.map_eq_some_iff.mp hi
    subst e3
    have hml : m < σ.length := by
      have := hP.mem.mp (List.mem_of_getElem? hm)
      omega
    obtain ⟨j, hj, hjm⟩ := h m e2.symm hml
    have gj : (((up σ).map El.int).set a e)[j]? = some (El.int (m : Int)) := by
      rw [List.getElem?_set_ne (Ne.symm hj), List.getElem?_map, List.getElem?_map, hjm]
      rfl
    rw [e1, List.getElem?_map, List.getElem?_map] at gj
    obtain ⟨i2, hi2, e4⟩ := Option.map_eq_some_iff.mp gj
    obtain ⟨m2, hm2, e5⟩ := Option.map_eq_some_iff.mp hi2
    have : m2 = m := by
      have := El.int.inj e4
      rw [← e5] at this
      exact Int.ofNat.inj this
    rw [this] at hm2
    exact absurd (at_inj hP.nodup hm2 hm) hj
theorem app_P {σ : List Nat} (h : IsP σ) : IsP (σ ++ [σ.length]) := by
  unfold IsP at h ⊢
  rw [List.length_append, List.length_singleton, List.range_succ]
  exact h.append_right _
def badA : List Th := [.el .non, .el (.tu []), .el (.tu [0]), .el (.str "0"), .el .di, .el (.int 5), .lst [.non], .lst [.str "0"], .lst [.bl false], .lst [.int 0, .bl true], .lst [.int 1], .lst [.int (-1)], .lst [.int 0, .int 0], .lst [.int 1, .int 2], .lst [.li [0]], .lst [.int 0, .int 2]]
def badB (σ : List Nat) : List Th := [lstN (List.range 61), lstN (List.range' 1 (61 - 1)), lstN (List.replicate 60 0), lstN (σ ++ [σ.length + 1]), lstN (σ ++ [0, 0])]
theorem ord_lst {xs : List Nat} (h : isOrd xs = false) (hl : xs.length ≤ 1000) : bad (lstN xs) := ⟨ok_lstN hl, by rw [isOrdT_lstN]; exact h⟩
theorem badA_bad : ∀ x ∈ badA, bad x := by
  unfold badA
  intro x hx
  simp only [List.mem_cons, List.not_mem_nil, or_false] at hx
  have l1 : ∀ xs : List El, xs.length ≤ 1000 → isOrdT (.lst xs) = false → bad (.lst xs) := fun xs a b => ⟨a, b⟩
  rcases hx with rfl | rfl | rfl | rfl | rfl | rfl | rfl | rfl | rfl | rfl | rfl | rfl | rfl | rfl | rfl | rfl
  · exact ⟨trivial, rfl⟩
  · exact ⟨trivial, rfl⟩
  · exact ⟨trivial, rfl⟩
  · exact ⟨trivial, rfl⟩
  · exact ⟨trivial, rfl⟩
  · exact ⟨trivial, rfl⟩
  · exact l1 _ (by decide) rfl
  · exact l1 _ (by decide) rfl
  · exact l1 _ (by decide) rfl
  · exact l1 _ (by decide) rfl
  · exact l1 _ (by decide) (by decide +kernel)
  · exact l1 _ (by decide) (by decide +kernel)
  · exact bad_lstN (σ := [0, 0]) (by decide) (by unfold IsP; decide)
  · exact bad_lstN (σ := [1, 2]) (by decide) (by unfold IsP; decide)
  · exact l1 _ (by decide) rfl
  · exact bad_lstN (σ := [0, 2]) (by decide) (by unfold IsP; decide)
theorem badB_bad {σ : List Nat} (h : OkO σ) : ∀ x ∈ badB σ, bad x := by
  unfold badB
  have hz := h.2
  intro x hx
  simp only [List.mem_cons, List.not_mem_nil, or_false] at hx
  rcases hx with rfl | rfl | rfl | rfl | rfl
  · exact ord_lst (by decide +kernel) (by decide +kernel)
  · exact bad_lstN (by decide +kernel) (by unfold IsP; decide +kernel)
  · exact bad_lstN (by decide +kernel) (by unfold IsP; decide +kernel)
  · exact bad_far (by omega)
  · exact bad_twice (by omega)
section
variable {P : Program} {w : World} {K : PySem.W.Frag} {mg : Str → Option Value} {base : Heap} {T : List (Addr × Str)}
theorem evq_of {α : Type} {O : Own α} {te : TE} {es : List Cell} {x : α} (h : EvO T O te es x) : EvQ T O te es (fun y => y = x) := fun G0 H0 G H σ F m Q q => h G0 H0 G H σ F m Q fun v G' H' F' s f r => q x v G' H' F' rfl s f r
theorem ev_ref {es : List Cell} {f : Addr} : EvE T (rAd f) (tC (.ref f)) es () := fun G0 H0 G H σ F m Q q => q _ G H (Step.refl m.m) rfl
abbrev spBads (T : List (Addr × Str)) : Sp := spQ T (fun i : List Nat × Nat => [.val (rL rN) i.1, .val rN i.2]) (fun i => OkO i.1) (oL rTh) fun _ xs => (∀ x ∈ xs, bad x) ∧ xs.length ≤ 100
theorem ev_elL {te : TE} {es : List Cell} {σ : List Nat} (h : EvE T (rL rN) te es σ) : EvE T (rL rEl) te es ((up σ).map El.int) := ev_sub h ((sub_LN (xs := σ)).trans (sub_LEl _))
theorem sc_law_bad_orders : FnScope ["_law_order_here", "_law_far", "_law_size", "_law_bad", "_law_at", "_law_one"] ["_law_order_here", "_law_far"] (defScope s_law_bad_orders) := ⟨rfl, rfl, rfl, by decide +kernel, rfl, by decide +kernel, by decide +kernel⟩
theorem ok_bad_orders {f : Addr} {fd : FuncData} (Df : Def K mg "_law_bad_orders" s_law_bad_orders ["_law_order_here", "_law_far"] f fd) (B : Bn mg) :
    Pr P w K mg base CX0 (0 + 1) "_law_bad_orders" ["_law_order_here", "_law_far"] (spBads T) := by
  refine fn_Q Df sc_law_bad_orders (fun _ => rfl) fun cdv A outer s H E hr => ⟨_, (pss_cons (ps_set (i := 2) sc_law_bad_orders.nd rfl (.inl rfl) (pe_callB call_len_seq (by rfl) B.len PySem.boot_len (pa_cons (pv 0) pa_nil)))
    (pss_cons (ps_set (i := 3) sc_law_bad_orders.nd rfl (.inl rfl) (pe_lst (pa_cons pe_non (pa_cons (pe_tup pa_nil) (pa_cons (pe_tup (pa_cons pe_int pa_nil)) (pa_cons pe_str (pa_cons pe_dnewK (pa_cons pe_int (pa_cons (pe_lst (pa_cons pe_non pa_nil)) (pa_cons (pe_lst (pa_cons pe_str pa_nil)) (pa_cons (pe_lst (pa_cons pe_bl pa_nil)) (pa_cons (pe_lst (pa_cons pe_int (pa_cons pe_bl pa_nil))) (pa_cons (pe_lst (pa_cons pe_int pa_nil)) (pa_cons (pe_lst (pa_cons (pe_un un_neg pe_int) pa_nil)) (pa_cons (pe_lst (pa_cons pe_int (pa_cons pe_int pa_nil))) (pa_cons (pe_lst (pa_cons pe_int (pa_cons pe_int pa_nil))) (pa_cons (pe_lst (pa_cons (pe_lst (pa_cons pe_int pa_nil)) pa_nil)) (pa_cons (pe_lst (pa_cons pe_int (pa_cons pe_int pa_nil))) pa_nil))))))))))))))))))
    (pss_cons (ps_set (i := 3) sc_law_bad_orders.nd rfl (.inl rfl) (pe_op op_cat (pv 3) (pe_lst (pa_cons (pe_listRg rfl (by rfl) B.list (prg_1 (by rfl) B.range pe_int)) (pa_cons (pe_listRg rfl (by rfl) B.list (prg_2 (by rfl) B.range pe_int pe_int)) (pa_cons (pe_op op_rep (pe_lst (pa_cons pe_int pa_nil)) pe_int) (pa_cons (pe_op op_cat (pv 0) (pe_lst (pa_cons (pe_op op_add (pv 2) pe_int) pa_nil))) (pa_cons (pe_op op_cat (pv 0) (pe_lst (pa_cons pe_int (pa_cons pe_int pa_nil)))) pa_nil))))))))
    (Evl.pss_cut (ps_if (pt_cmpR op_gt (pv 2) pe_int (nomark _)) (pss_cons (ps_set (i := 4) sc_law_bad_orders.nd rfl (.inl rfl) (pe_op op_mod (pv 1) (pv 2)))
    (pss_one (ps_for PassesOwn.never rfl (pi_tup (pe_tup (pa_cons pe_non (pa_cons pe_str (pa_cons pe_bl (pa_cons (pe_op op_add (pv 2) (pv 1)) (pa_cons (pe_op op_sub (pe_un un_neg pe_int) (pv 1)) (pa_cons (pe_ix ix_list (pv 0) (pe_ifExp (pt_cmpR op_gt (pv 4) pe_int (nomark _)) (pe_op op_sub (pv 4) pe_int) pe_int) (fun _ _ => rfl)) pa_nil)))))))) (pg_name (i := 5) sc_law_bad_orders.nd rfl (.inl rfl)) (pss_one (ps_expr (pe_bm PySem.F.plainAttrs_list PySem.F.slot_list_append PySem.F.type_list_append mt_append (pv 3) (pa_cons (pe_op op_cat (pe_op op_cat (pe_slice sl_list (pv 0) po_none (po_some (pv 4))) (pe_lst (pa_cons (pv 5) pa_nil))) (pe_slice sl_list (pv 0) (po_some (pe_op op_add (pv 4) pe_int)) po_none)) pa_nil))))))) (pss_nil))
    (pss_one (ps_ret (pv 3))))))), fun i G0 H0 D hO hq hn => ?_⟩
  obtain ⟨σ, far⟩ := i
  dsimp only at hO hq ⊢
  have hz := hO.2
  have i1 : ∀ {es : List Cell} {i : Int}, EvE T rTh (tLst (tCons (tC (.int i)) tNil)) es (.lst [.int i]) := ev_thLst (ev_frz frz_L (eo_lst (xs := [El.int _]) (ea_cons (ev_elInt ev_int) ea_nil) (by simp)))
  have i2 : ∀ {es : List Cell} {i j : Int}, EvE T rTh (tLst (tCons (tC (.int i)) (tCons (tC (.int j)) tNil))) es (.lst [.int i, .int j]) := ev_thLst (ev_frz frz_L (eo_lst (xs := [El.int _, El.int _]) (ea_cons (ev_elInt ev_int) (ea_cons (ev_elInt ev_int) ea_nil)) (by simp)))
  refine go_seq (go_asg (ev_len (ev_var (i := 0) rfl)) (to_go ?_))
  refine go_seq (go_asg (R := rL rTh) (x := badA) (ev_frz frz_L (eo_lst (R := rTh)
    (ea_cons ev_thNon (ea_cons (ev_thEl (ev_sub (ev_tupT (R := rI) (xs := []) ea_nil (by simp)) (fun _ _ h => h))) (ea_cons (ev_thEl (ev_sub (ev_tupT (R := rI) (xs := [0]) (ea_cons ev_int ea_nil) (by simp)) (fun _ _ h => h))) (ea_cons (ev_thEl ev_elStr) (ea_cons (ev_thEl (ev_sub (ev_frz frz_D (eo_dict (R := rI))) (fun _ _ h => h))) (ea_cons (ev_thInt ev_int)
    (ea_cons (ev_thLst (ev_frz frz_L (eo_lst (R := rEl) (xs := [.non]) (ea_cons ev_elNon ea_nil) (by simp)))) (ea_cons (ev_thLst (ev_frz frz_L (eo_lst (R := rEl) (xs := [.str "0"]) (ea_cons ev_elStr ea_nil) (by simp)))) (ea_cons (ev_thLst (ev_frz frz_L (eo_lst (R := rEl) (xs := [.bl false]) (ea_cons ev_elBl ea_nil) (by simp)))) (ea_cons (ev_thLst (ev_frz frz_L (eo_lst (R := rEl) (xs := [.int 0, .bl true]) (ea_cons (ev_elInt ev_int) (ea_cons ev_elBl ea_nil)) (by simp))))
    (ea_cons i1 (ea_cons (ev_thLst (ev_frz frz_L (eo_lst (R := rEl) (xs := [.int (-1)]) (ea_cons (ev_elInt (ev_negI ev_int)) ea_nil) (by simp)))) (ea_cons i2 (ea_cons i2 (ea_cons (ev_thLst (ev_frz frz_L (eo_lst (R := rEl) (xs := [.li [0]]) (ea_cons (ev_sub (ev_frz frz_L (eo_lst (R := rI) (xs := [0]) (ea_cons ev_int ea_nil) (by simp))) (fun _ _ h => h)) ea_nil) (by simp)))) (ea_cons i2 ea_nil)))))))))))))))) (by decide))) (to_go ?_))
  refine go_seq (go_asgO (x := badA ++ badB σ) (eo_cat (ev_var (i := 3) rfl) (ev_frz frz_L (eo_lst (R := rTh) (ea_cons (ev_thN (ev_frz frz_L (eo_listRg (ev_k (n := 61) rfl) (by omega)))) (ea_cons (ev_thN (ev_frz frz_L (eo_listRg2 (ev_k (n := 1) rfl) (ev_k (n := 61) rfl) (by omega) (by omega)))) (ea_cons (ev_thN (ev_frz frz_L (eo_rep (ev_frz frz_L (eo_lst (xs := [0]) (ea_cons (ev_k rfl) ea_nil) (by simp))) (ev_k (n := 60) rfl) (by omega))))
    (ea_cons (ev_thN (ev_frz frz_L (eo_cat (ev_var (i := 0) rfl) (ev_frz frz_L (eo_lst (xs := [σ.length + 1]) (ea_cons (ev_addN (ev_var (i := 2) rfl) (ev_k (n := 1) rfl)) ea_nil) (by simp))) (by simp; omega)))) (ea_cons (ev_thN (ev_frz frz_L (eo_cat (ev_var (i := 0) rfl) (ev_frz frz_L (eo_lst (xs := [0, 0]) (ea_cons (ev_k rfl) (ea_cons (ev_k rfl) ea_nil)) (by simp))) (by simp; omega)))) ea_nil))))) (by simp [badB]))) (by simp [badA, badB])) (to_go ?_))
  have hAB : ∀ x ∈ badA ++ badB σ, bad x := fun x hx => (List.mem_append.mp hx).elim (badA_bad x) (badB_bad hO x)
  have hABl : (badA ++ badB σ).length = 21 := by simp [badA, badB]
  generalize badA ++ badB σ = ab at hAB hABl ⊢
  refine go_cut (fun es' => ∃ xs : List Th, ((∀ x ∈ xs, bad x) ∧ xs.length ≤ 100) ∧ es' = [.val (rL rN) σ, .val rN far, .val rN σ.length, .own (oL rTh) xs, .no, .no]) ?_ fun es' he => ?_
  · refine go_if (b := decide (1 < σ.length)) (eb_test (ev_gtN (ev_var (i := 2) rfl) (ev_k (n := 1) rfl))) (fun hb => ?_) fun _ => go_next (To.wk (.keep (.keep (.keep (.keep (.drop (.drop .nil)))))) (To.some ⟨ab, ⟨hAB, by omega⟩, rfl⟩))
    have h1 := of_decide_eq_true hb
    refine go_seq (go_asg (ev_modN (ev_var (i := 1) rfl) (ev_var (i := 2) rfl) (by omega)) (to_go ?_))
    have ha : far % σ.length < σ.length := Nat.mod_lt _ (by omega)
    generalize far % σ.length = a at ha ⊢
    obtain ⟨j, hj, hja, hje⟩ : ∃ j, j < σ.length ∧ j ≠ a ∧ j = if 0 < a then a - 1 else 1 := by
      by_cases h0 : 0 < a
      · exact ⟨a - 1, by omega, by omega, (if_pos h0).symm⟩
      · exact ⟨1, by omega, by omega, (if_neg h0).symm⟩
    have hsj : σ[j]? = some σ[j] := List.getElem?_eq_getElem hj
    generalize σ[j] = m at hsj
    refine go_forS (xs := [El.non, .str "1", .bl true, .int ((σ.length + far : Nat) : Int), .int (-1 - (far : Int)), .int (m : Int)]) [5] (fun s : List Th => [.val (rL rN) σ, .val rN far, .val rN σ.length, .own (oL rTh) s, .val rN a, .no]) (fun i s => (∀ x ∈ s, bad x) ∧ s.length = 21 + i) ab
      (evi_tup (ev_tupT (R := rEl) (ea_cons ev_elNon (ea_cons ev_elStr (ea_cons ev_elBl (ea_cons (ev_elInt (ev_NI (ev_addN (ev_var (i := 2) rfl) (ev_var (i := 1) rfl)))) (ea_cons (ev_elInt (ev_subI (ev_negI ev_int) (ev_NI (ev_var (i := 1) rfl)))) (ea_cons (ev_elInt (ev_NI (ev_ixL (ev_var (i := 0) rfl) (ev_if (R := rN) (x := j) (b := decide (0 < a)) (eb_test (ev_gtN (ev_var (i := 4) rfl) (ev_k (n := 0) rfl)))
        (fun h => ev_is (ev_subN (ev_var (i := 4) rfl) (ev_k (n := 1) rfl) (of_decide_eq_true h)) (by rw [hje, if_pos (of_decide_eq_true h)])) fun h => ev_is (ev_k (n := 1) rfl) (by rw [hje, if_neg (of_decide_eq_false h)])) hsj))) ea_nil)))))) (by simp))) Wk.refl ⟨hAB, hABl⟩ (fun G1 sh i e s hx ps => ?_) fun s ps => ?_
    · obtain ⟨p1, p2⟩ := ps
      have hi6 : i < 6 := (List.getElem?_eq_some_iff.mp hx).1
      refine ⟨_, tg_name, ?_⟩
      have hb2 : bad (.lst (((up σ).map El.int).take a ++ [e] ++ ((up σ).map El.int).drop (a + 1))) := by
        refine bent_bad hO ha fun k hk hkl => ?_
        have hm := List.mem_of_getElem? hx
        simp only [List.mem_cons, List.not_mem_nil, or_false] at hm
        rcases hm with rfl | rfl | rfl | rfl | rfl | rfl
        · cases hk
        · cases hk
        · cases hk
        · have := El.int.inj hk
          omega
        · have := El.int.inj hk
          omega
        · have := El.int.inj hk
          have : k = m := by omega
          exact ⟨j, hja, by rw [this]; exact hsj⟩
      have hl : ((up σ).map El.int).length ≤ 60 := by rw [List.length_map, List.length_map]; exact hz
      refine go_app (i := 3) (x := Th.lst (((up σ).map El.int).take a ++ [e] ++ ((up σ).map El.int).drop (a + 1))) rfl (by omega) (ev_thLst (ev_frz frz_L (eo_cat (ev_frz frz_L (eo_cat (ev_is (ev_frz frz_L (eo_slice (ev_elL (ev_var (i := 0) rfl)) po_no (po_so (ev_var (i := 4) rfl)))) rfl) (ev_frz frz_L (eo_lst (xs := [e]) (ea_cons (ev_var (i := 5) rfl) ea_nil) (by simp))) (by rw [List.length_take]; simp; omega)))
        (ev_is (ev_frz frz_L (eo_slice (ev_elL (ev_var (i := 0) rfl)) (po_so (ev_addN (ev_var (i := 4) rfl) (ev_k (n := 1) rfl))) po_no)) rfl) (by rw [List.length_append, List.length_take, List.length_drop]; simp; omega)))) (to_S (s ++ [Th.lst (((up σ).map El.int).take a ++ [e] ++ ((up σ).map El.int).drop (a + 1))]) ⟨fun x hx => ?_, by rw [List.length_append, p2]; rfl⟩ (.keep (.keep (.keep (.keep (.keep (.drop .nil)))))))
      rcases List.mem_append.mp hx with hx | hx
      · exact p1 x hx
      · rw [List.mem_singleton.mp hx]
        exact hb2
    · obtain ⟨p1, p2⟩ := ps
      have p2 : s.length = 21 + 6 := p2
      exact To.wk (.keep (.keep (.keep (.keep (.drop (.drop .nil)))))) (To.some ⟨s, ⟨p1, by omega⟩, rfl⟩)
  · obtain ⟨xs, hxs, rfl⟩ := he
    exact go_retV (i := 3) rfl fun v G H F st fr r => hq xs v G H F hxs st fr r
end
end AO
set_option Elab.async false
set_option linter.all false
set_option maxRecDepth 100000
set_option maxHeartbeats 2000000
/-! AOPar3: three names at once. -/
namespace AO
open PySem L2
section
variable {T : List (Addr × Str)} {G0 H0 : Hp} {es : List Cell} {α β γ : Type} {R : Rep α} {S : Rep β} {U : Rep γ} {x : α} {y : β} {z : γ} {ta tb tc : TE} {D : Ends}
theorem go_par3 {i j l : Nat} (h1 : EvE T R ta es x) (h2 : EvE T S tb es y) (h3 : EvE T U tc es z) (k : To T G0 H0 D.nx (((es.set i (.val R x)).set j (.val S y)).set l (.val U z))) : Go T G0 H0 (tPar3 i j l (tCons ta (tCons tb (tCons tc tNil)))) D es := fun G H σ F m =>
  h1 G0 H0 G H σ F m _ fun v G1 H1 s1 r1 => h2 G0 H0 G1 H1 σ F (m.step s1) _ fun w G2 H2 s2 r2 => h3 G0 H0 G2 H2 σ F ((m.step s1).step s2) _ fun u G3 H3 s3 r3 =>
    ⟨v, w, u, rfl, k G3 H3 _ _ (((((m.step s1).step s2).step s3).set i (R.mono (Evl.Ex.trans s2.g s3.g) r1)).set j (S.mono s3.g r2) |>.set l r3)⟩
end
end AO
set_option Elab.async false
set_option linter.all false
set_option maxRecDepth 100000
set_option maxHeartbeats 4000000
/-! AOZ5: the law k05. -/
namespace AO
open PySem L2
def dueK (k : Nat) : List Bool := [decide (k = 0), decide (k = 1), decide (k = 2), decide (k = 3), decide (k = 4), true]
def dueA : List (List Bool) := [kindsL .bo, kindsL .bt, kindsL .bn, kindsL .nr, kindsL .ot]
def cntL : List Th := [.el .non, .el (.str "1"), .el (.bl true), .el (.bl false), .lst [.int 1], .el (.tu [1]), .el .di]
theorem cnt_not : ∀ x ∈ cntL, isWT x = false := by
  unfold cntL
  intro x hx
  simp only [List.mem_cons, List.not_mem_nil, or_false] at hx
  rcases hx with rfl | rfl | rfl | rfl | rfl | rfl | rfl <;> rfl
abbrev lawC (xs : List Int) (far : Nat) (σ : List Nat) (t : Nat) (bd : List Th) (c10 c11 c12 : Cell) : List Cell :=
  [.val (rL rI) xs, .val rN far, .val (rL (rL rB)) dueA, .no, .val (rL rN) σ, .val (rL rN) σ, .val rN σ.length, .val rN t, .val (rL rTh) bd, .val (rL rTh) cntL, c10, c11, c12]
section
variable {P : Program} {w : World} {K : PySem.W.Frag} {mg : Str → Option Value} {base : Heap} {T : List (Addr × Str)} {fa : FA}
abbrev spLaw (T : List (Addr × Str)) (K : PySem.W.Frag) : Sp := spE T (fun xs : List Int => [.val (rLs K rI) xs]) CellsOk rB fun _ => true
theorem sc_law : FnScope ["_law_script", "_law_far", "_law_due", "_law_k", "_law_order_here", "_law_kept", "_law_size", "_law_times_here", "_law_bad", "_law_counts", "_law_door", "_law_most", "_law_other"] ["_law_script"] (defScope s_law) := ⟨rfl, rfl, rfl, by decide +kernel, rfl, by decide +kernel, by decide +kernel⟩
theorem ok_law {f : Addr} {fd : FuncData} (Df : Def K mg "law" s_law ["_law_script"] f fd) (B : Bn mg)
    (g_law_with_order : mg "_law_with_order" = some (.ref fa.order)) (g_law_with_any : mg "_law_with_any" = some (.ref fa.any)) (g_law_with_times : mg "_law_with_times" = some (.ref fa.times)) (g_law_with_number : mg "_law_with_number" = some (.ref fa.number)) (g_law_with_root : mg "_law_with_root" = some (.ref fa.root)) (gturned : mg "turned" = some (.ref fa.turned))
    (h_law_cell_at : Pr P w K mg base CX0 1 "_law_cell_at" ["_law_script", "_law_k"] (spCell T)) (h_law_value : Pr P w K mg base CX0 2 "_law_value" ["_law_cell", "_law_k", "_law_limit"] (spValue T)) (h_law_order : Pr P w K mg base CX0 3 "_law_order" ["_law_script", "_law_by"] (spOrder T)) (h_law_times : Pr P w K mg base CX0 3 "_law_times" ["_law_script", "_law_k"] (spTimes T))
    (h_law_bad_orders : Pr P w K mg base CX0 1 "_law_bad_orders" ["_law_order_here", "_law_far"] (spBads T)) (h_law_all : Pr P w K mg base CX0 9 "_law_all" ["_law_ask", "_law_one", "_law_things", "_law_due"] (spAll T fa)) (h_how_many : Pr P w K mg base CX0 6 "how_many" ["order", "times"] (spCount T)) (h_rings_in : Pr P w K mg base CX0 4 "rings_in" ["order"] (spRIn T)) (h_done_again : Pr P w K mg base CX0 4 "done_again" ["order", "times"] (spDone T)) :
    FnOk P w K mg base CX0 (9 + 1) f fd ["_law_script"] (spLaw T K) := by
  refine fnE_at Df.F sc_law (fun _ => rfl) fun cdv A outer s H E hr => ⟨_, (pss_cons (ps_set (i := 0) sc_law.nd rfl (.inl rfl) (pe_slice sl_list (pv 0) po_none (po_some pe_int)))
    (pss_cons (ps_set (i := 1) sc_law.nd rfl (.inl rfl) (pe_pr h_law_value (hr.mono (by decide)) (pa_cons (pe_pr h_law_cell_at (hr.mono (by decide)) (pa_cons (pv 0) (pa_cons pe_int pa_nil))) (pa_cons pe_int (pa_cons pe_int pa_nil)))))
    (pss_cons (ps_set (i := 2) sc_law.nd rfl (.inl rfl) (pe_lst pa_nil))
    (pss_cons (ps_for PassesOwn.never rfl (pi_range1 (by rfl) B.range (pa_cons pe_int pa_nil)) (pg_name (i := 3) sc_law.nd rfl (.inl rfl)) (pss_one (ps_expr (pe_bm PySem.F.plainAttrs_list PySem.F.slot_list_append PySem.F.type_list_append mt_append (pv 2) (pa_cons (pe_lst (pa_cons (pe_cmpR op_eq (pv 3) pe_int (nomark _)) (pa_cons (pe_cmpR op_eq (pv 3) pe_int (nomark _)) (pa_cons (pe_cmpR op_eq (pv 3) pe_int (nomark _)) (pa_cons (pe_cmpR op_eq (pv 3) pe_int (nomark _)) (pa_cons (pe_cmpR op_eq (pv 3) pe_int (nomark _)) (pa_cons pe_bl pa_nil))))))) pa_nil)))))
    (pss_cons (ps_set (i := 4) sc_law.nd rfl (.inl rfl) (pe_pr h_law_order (hr.mono (by decide)) (pa_cons (pv 0) (pa_cons pe_int pa_nil))))
    (pss_cons (ps_par3 (i := 5) (j := 6) (l := 7) rfl sc_law.nd rfl rfl rfl (by decide) (by decide) (by decide) rfl rfl rfl (pa_cons (pe_callTy call_list_of (by rfl) B.list PyProof.Rows.boot_list (pa_cons (pv 4) pa_nil)) (pa_cons (pe_callB call_len_seq (by rfl) B.len PySem.boot_len (pa_cons (pv 4) pa_nil)) (pa_cons (pe_pr h_law_times (hr.mono (by decide)) (pa_cons (pv 0) (pa_cons pe_int pa_nil))) pa_nil))) (by rfl))
    (pss_cons (ps_par (i := 8) (j := 9) rfl sc_law.nd rfl rfl (by decide) rfl rfl (pa_cons (pe_pr h_law_bad_orders (hr.mono (by decide)) (pa_cons (pv 4) (pa_cons (pv 1) pa_nil))) (pa_cons (pe_lst (pa_cons pe_non (pa_cons pe_str (pa_cons pe_bl (pa_cons pe_bl (pa_cons (pe_lst (pa_cons pe_int pa_nil)) (pa_cons (pe_tup (pa_cons pe_int pa_nil)) (pa_cons pe_dnewK pa_nil)))))))) pa_nil)) (by rfl))
    (pss_cons (ps_for PassesOwn.never rfl (pi_range1 (by rfl) B.range (pa_cons pe_int pa_nil)) (pg_name (i := 10) sc_law.nd rfl (.inl rfl)) (pss_one (ps_if (pt_not (pt_val (pe_pr h_law_all (hr.mono (by decide)) (pa_cons (pe_glob (v := .ref fa.order) rfl g_law_with_order rfl) (pa_cons (pv 10) (pa_cons (pv 8) (pa_cons (pe_ix ix_list (pv 2) pe_int (fun _ _ => rfl)) pa_nil))))))) (pss_one (ps_ret pe_bl)) (pss_nil))))
    (pss_cons (ps_if (pt_not (pt_val (pe_pr h_law_all (hr.mono (by decide)) (pa_cons (pe_glob (v := .ref fa.any) rfl g_law_with_any rfl) (pa_cons (pv 4) (pa_cons (pv 9) (pa_cons (pe_ix ix_list (pv 2) pe_int (fun _ _ => rfl)) pa_nil))))))) (pss_one (ps_ret pe_bl)) (pss_nil))
    (pss_cons (ps_for PassesOwn.never rfl (pi_range1 (by rfl) B.range (pa_cons pe_int pa_nil)) (pg_name (i := 10) sc_law.nd rfl (.inl rfl)) (pss_one (ps_if (pt_not (pt_val (pe_pr h_law_all (hr.mono (by decide)) (pa_cons (pe_glob (v := .ref fa.times) rfl g_law_with_times rfl) (pa_cons (pe_tup (pa_cons (pv 10) (pa_cons (pv 4) pa_nil))) (pa_cons (pe_op op_cat (pv 9) (pe_lst (pa_cons pe_int (pa_cons (pe_un un_neg pe_int) (pa_cons (pe_op op_sub (pe_un un_neg pe_int) (pv 1)) pa_nil))))) (pa_cons (pe_ix ix_list (pv 2) pe_int (fun _ _ => rfl)) pa_nil))))))) (pss_one (ps_ret pe_bl)) (pss_nil))))
    (pss_cons (ps_set (i := 11) sc_law.nd rfl (.inl rfl) (pe_pr h_how_many (hr.mono (by decide)) (pa_cons (pv 4) (pa_cons (pv 7) pa_nil))))
    (pss_cons (ps_if (pt_not (pt_val (pe_pr h_law_all (hr.mono (by decide)) (pa_cons (pe_glob (v := .ref fa.number) rfl g_law_with_number rfl) (pa_cons (pe_tup (pa_cons (pv 4) (pa_cons (pv 7) pa_nil))) (pa_cons (pe_op op_cat (pv 9) (pe_lst (pa_cons (pe_un un_neg pe_int) (pa_cons (pe_op op_sub (pe_un un_neg pe_int) (pv 1)) (pa_cons (pv 11) (pa_cons (pe_op op_add (pv 11) (pv 1)) pa_nil)))))) (pa_cons (pe_ix ix_list (pv 2) pe_int (fun _ _ => rfl)) pa_nil))))))) (pss_one (ps_ret pe_bl)) (pss_nil))
    (pss_cons (ps_if (pt_not (pt_val (pe_pr h_law_all (hr.mono (by decide)) (pa_cons (pe_glob (v := .ref fa.root) rfl g_law_with_root rfl) (pa_cons (pe_tup (pa_cons (pv 4) (pa_cons (pv 7) pa_nil))) (pa_cons (pe_op op_cat (pv 8) (pe_lst (pa_cons (pe_listRg rfl (by rfl) B.list (prg_1 (by rfl) B.range (pe_op op_add (pv 6) pe_int))) (pa_cons (pe_op op_cat (pv 4) (pe_lst (pa_cons (pv 6) pa_nil))) pa_nil)))) (pa_cons (pe_ix ix_list (pv 2) pe_int (fun _ _ => rfl)) pa_nil))))))) (pss_one (ps_ret pe_bl)) (pss_nil))
    (pss_cons (ps_for PassesOwn.never rfl (pi_tup (pe_ifExp (pt_cmpR op_lt (pv 6) pe_int (nomark _)) (pe_tup (pa_cons (pe_op op_cat (pv 4) (pe_lst (pa_cons (pv 6) pa_nil))) (pa_cons (pe_listRg rfl (by rfl) B.list (prg_1 (by rfl) B.range (pe_op op_add (pv 6) pe_int))) pa_nil))) (pe_tup pa_nil))) (pg_name (i := 12) sc_law.nd rfl (.inl rfl)) (pss_cons (ps_if (pt_not (pt_val (pe_pr h_law_all (hr.mono (by decide)) (pa_cons (pe_glob (v := .ref fa.turned) rfl gturned rfl) (pa_cons (pv 4) (pa_cons (pe_lst (pa_cons (pv 12) pa_nil)) (pa_cons (pe_ix ix_list (pv 2) pe_int (fun _ _ => rfl)) pa_nil))))))) (pss_one (ps_ret pe_bl)) (pss_nil))
    (pss_one (ps_if (pt_not (pt_val (pe_pr h_law_all (hr.mono (by decide)) (pa_cons (pe_glob (v := .ref fa.turned) rfl gturned rfl) (pa_cons (pv 12) (pa_cons (pe_lst (pa_cons (pv 4) pa_nil)) (pa_cons (pe_ix ix_list (pv 2) pe_int (fun _ _ => rfl)) pa_nil))))))) (pss_one (ps_ret pe_bl)) (pss_nil)))))
    (pss_cons (ps_if (PW.pt (pw_or (pt_cmpR (op_neD (un_lt64 hr)) (pe_ix ix_list (pe_pr h_rings_in (hr.mono (by decide)) (pa_cons (pe_listRg rfl (by rfl) B.list (prg_1 (by rfl) B.range pe_int)) pa_nil)) pe_int (fun _ _ => rfl)) (pe_lst (pa_cons pe_int pa_nil)) (nomark _)) (pw_or1 (pt_cmpR op_ne (pe_pr h_how_many (hr.mono (by decide)) (pa_cons (pe_lst (pa_cons pe_int (pa_cons pe_int pa_nil))) (pa_cons pe_int pa_nil))) pe_int (nomark _))))) (pss_one (ps_ret pe_bl)) (pss_nil))
    (pss_one (ps_ret (pe_and (pe_cmpR (op_eqD (un_lt64 hr)) (pv 4) (pv 5) (nomark _)) (pe_one (pe_cmpR (op_eqD (un_lt64 hr)) (pe_pr h_done_again (hr.mono (by decide)) (pa_cons (pe_lst pa_nil) (pa_cons (pe_un un_neg (pv 1)) pa_nil))) (pe_lst pa_nil) (nomark _))))))))))))))))))))), fun xs G0 H0 D hp hq => ?_⟩
  obtain ⟨hb, hxl⟩ := hp
  have hC : CellsOk xs := ⟨hb, hxl⟩
  refine go_seq (go_asg (ev_is (ev_frz frz_L (eo_sliceS (ev_var (i := 0) rfl) po_no (po_so (ev_k (n := 63) rfl)))) (List.take_of_length_le hxl)) (to_go ?_))
  refine go_seq (go_asg (ev_call (xs.getD 0 0, 3, 900000) (ea_cons (ev_call (xs, 0) (ea_cons (ev_var (i := 0) rfl) (ea_cons (ev_k rfl) ea_nil)) trivial) (ea_cons (ev_k rfl) (ea_cons (ev_k rfl) ea_nil))) (And.intro (cell_bitsD hC 0) (And.intro (show 3 < 1000 by omega) (show 0 < 900000 by omega)))) (to_go ?_))
  dsimp only
  generalize valN (xs.getD 0 0) 3 900000 = far
  refine go_seq (go_asgO (eo_lst0 (R := rL rB)) (to_go ?_))
  refine go_seq (go_forS (xs := List.range 5) [3] (fun s : List (List Bool) => [.val (rL rI) xs, .val rN far, .own (oL (rL rB)) s, .no, .no, .no, .no, .no, .no, .no, .no, .no, .no]) (fun i s => s = (List.range i).map dueK) [] (evi_rng1 (ev_k rfl) (by omega)) Wk.refl rfl (fun G1 sh i k s hx ps => ?_) fun s ps => ?_)
  · obtain ⟨rfl, hi⟩ : k = i ∧ i < 5 := by
      obtain ⟨h1, h2⟩ := List.getElem?_eq_some_iff.mp hx
      simp at h1 h2
      exact ⟨h2.symm, h1⟩
    refine ⟨_, tg_name, ?_⟩
    refine go_app (i := 2) (x := dueK k) rfl (by rw [ps, List.length_map, List.length_range]; omega) (ev_frz frz_L (eo_lst (R := rB) (ea_cons (ev_eqN (ev_var (i := 3) rfl) (ev_k (n := 0) rfl)) (ea_cons (ev_eqN (ev_var (i := 3) rfl) (ev_k (n := 1) rfl)) (ea_cons (ev_eqN (ev_var (i := 3) rfl) (ev_k (n := 2) rfl)) (ea_cons (ev_eqN (ev_var (i := 3) rfl) (ev_k (n := 3) rfl)) (ea_cons (ev_eqN (ev_var (i := 3) rfl) (ev_k (n := 4) rfl)) (ea_cons ev_bl ea_nil)))))) (by simp [dueK]))) (to_S (s ++ [dueK k]) ?_ (.keep (.keep (.keep (.drop (.drop (.drop (.drop (.drop (.drop (.drop (.drop (.drop (.drop .nil))))))))))))))
    rw [ps, List.range_succ, List.map_append]
    rfl
  have ps : s = dueA := by
    rw [ps]
    decide
  subst ps
  refine to_go (go_frz 2 (rL (rL rB)) rfl frz_L ?_)
  refine go_seq (go_asgQ (eo_callQ (xs, 0) (ea_cons (ev_var (i := 0) rfl) (ea_cons (ev_k rfl) ea_nil)) (And.intro hC (show 0 < 100 by omega))) fun σ ⟨hσ, lσ⟩ => to_go ?_)
  dsimp only at lσ
  refine go_frz 4 (rL rN) rfl frz_L ?_
  have oσ : OkO σ := ⟨hσ, by omega⟩
  have hz := oσ.2
  obtain ⟨ht0, ht1⟩ := times_ok xs 1
  refine go_seq (go_par3 (ev_frz frz_L (eo_list (ev_var (i := 4) rfl))) (ev_len (ev_var (i := 4) rfl)) (ev_call (xs, 1) (ea_cons (ev_var (i := 0) rfl) (ea_cons (ev_k rfl) ea_nil)) (And.intro hC (show 1 < 100 by omega))) (to_go ?_))
  dsimp only
  generalize timesN xs 1 = t at ht0 ht1 ⊢
  have oT : OkT1 σ t := ⟨oσ, ht0, Nat.lt_of_lt_of_le ht1 (Nat.pow_le_pow_right (by omega) (by omega))⟩
  refine go_seq (go_parQQ (eo_callQ (σ, far) (ea_cons (ev_var (i := 4) rfl) (ea_cons (ev_var (i := 1) rfl) ea_nil)) oσ) (evq_of (x := cntL) (eo_lst (R := rTh) (ea_cons ev_thNon (ea_cons (ev_thEl ev_elStr) (ea_cons (ev_thEl ev_elBl) (ea_cons (ev_thEl ev_elBl) (ea_cons (ev_thLst (ev_frz frz_L (eo_lst (R := rEl) (xs := [.int 1]) (ea_cons (ev_elInt ev_int) ea_nil) (by simp))))
    (ea_cons (ev_thEl (ev_sub (ev_tupT (R := rI) (xs := [1]) (ea_cons ev_int ea_nil) (by simp)) (fun _ _ h => h))) (ea_cons (ev_thEl (ev_sub (ev_frz frz_D (eo_dict (R := rI))) (fun _ _ h => h))) ea_nil))))))) (by simp [cntL]))) fun bd cl ⟨hbd, lbd⟩ hcl => to_go ?_)
  subst hcl
  refine go_frz 8 (rL rTh) rfl frz_L (go_frz 9 (rL rTh) rfl frz_L ?_)
  have due : ∀ {es : List Cell} {k : Nat} {x : Err}, es[2]? = some (.val (rL (rL rB)) dueA) → dueA[k]? = some (kindsL x) → EvE T (rL rB) (tOp (rIxL K) (tVar 2) (tC (.int (k : Int)))) es (kindsL x) := fun h hk => ev_ixL (ev_var h) (ev_k rfl) hk
  have cl : cntL.length = 7 := rfl
  -- the doors of orders
  refine go_seq (go_forS (xs := List.range 9) [10] (fun _ : Unit => lawC xs far σ t bd .no .no .no) (fun _ _ => True) () (evi_rng1 (ev_k rfl) (by omega)) Wk.refl trivial (fun G1 sh i d s hx _ => ?_) fun _ _ => ?_)
  · have hd : d < 9 := List.mem_range.mp (List.mem_of_getElem? hx)
    refine ⟨_, tg_name, ?_⟩
    exact go_if (b := false) (eb_not (eb_B (ev_call (Door.ord d, bd) (ea_cons ev_ref (ea_cons (ev_var (i := 10) rfl) (ea_cons (ev_var (i := 8) rfl) (ea_cons (due (k := 0) (x := .bo) rfl rfl) ea_nil)))) (And.intro (fun x hx => And.intro hd (hbd x hx)) (show bd.length ≤ 1000 by omega))))) (fun hb => by cases hb) fun _ => go_next (to_S () trivial (.keep (.keep (.keep (.keep (.keep (.keep (.keep (.keep (.keep (.keep (.drop (.keep (.keep .nil))))))))))))))
  refine to_go ?_
  -- the counts of done_again
  refine go_seq (go_if (b := false) (eb_not (eb_B (ev_call (Door.any σ, cntL) (ea_cons ev_ref (ea_cons (ev_var (i := 4) rfl) (ea_cons (ev_var (i := 9) rfl) (ea_cons (due (k := 1) (x := .bt) rfl rfl) ea_nil)))) (And.intro (fun x hx => And.intro oσ (.inl (cnt_not x hx))) (show cntL.length ≤ 1000 by omega))))) (fun hb => by cases hb) fun _ => go_next (to_go ?_))
  -- the counts of roots
  have z1 : ∀ {es : List Cell}, EvE T rTh (tUn (L2.rU fun i => .int (-i)) (tC (.int 1))) es (.el (.int (-1))) := ev_thInt (ev_negI ev_int)
  have zf : ∀ {es : List Cell}, es[1]? = some (.val rN far) → EvE T rTh (tOp (rI0 fun i j => .int (i - j)) (tUn (L2.rU fun i => .int (-i)) (tC (.int 1))) (tVar 1)) es (.el (.int (-1 - (far : Int)))) := fun h => ev_thInt (ev_subI (ev_negI ev_int) (ev_NI (ev_var h)))
  refine go_seq (go_forS (xs := List.range 4) [10] (fun _ : Unit => lawC xs far σ t bd .no .no .no) (fun _ _ => True) () (evi_rng1 (ev_k rfl) (by omega)) Wk.refl trivial (fun G1 sh i d s hx _ => ?_) fun _ _ => ?_)
  · have hd : d < 4 := List.mem_range.mp (List.mem_of_getElem? hx)
    refine ⟨_, tg_name, ?_⟩
    refine go_if (b := false) (eb_not (eb_B (ev_call (Door.tim d σ, cntL ++ [.el (.int 0), .el (.int (-1)), .el (.int (-1 - (far : Int)))]) (ea_cons ev_ref (ea_cons (ev_tup2 (ev_var (i := 10) rfl) (ev_var (i := 4) rfl)) (ea_cons (ev_frz frz_L (eo_cat (ev_var (i := 9) rfl) (ev_frz frz_L (eo_lst (R := rTh) (ea_cons (ev_thInt ev_int) (ea_cons z1 (ea_cons (zf rfl) ea_nil))) (by simp))) (by simp [cl]))) (ea_cons (due (k := 1) (x := .bt) rfl rfl) ea_nil)))) (And.intro (fun x hx => And.intro hd (And.intro oσ ?_)) (by simp [cl]))))) (fun hb => by cases hb) fun _ => go_next (to_S () trivial (.keep (.keep (.keep (.keep (.keep (.keep (.keep (.keep (.keep (.keep (.drop (.keep (.keep .nil))))))))))))))
    rcases List.mem_append.mp hx with hx | hx
    · exact .inl (cnt_not x hx)
    · simp only [List.mem_cons, List.not_mem_nil, or_false] at hx
      rcases hx with rfl | rfl | rfl
      · exact .inr ⟨rfl, _, rfl, by omega⟩
      · exact .inr ⟨rfl, _, rfl, by omega⟩
      · exact .inr ⟨rfl, _, rfl, by omega⟩
  refine to_go ?_
  -- the numbers
  refine go_seq (go_asg (ev_call (σ, t) (ea_cons (ev_var (i := 4) rfl) (ea_cons (ev_var (i := 7) rfl) ea_nil)) oT) (to_go ?_))
  dsimp only
  have eM : ∀ {es : List Cell}, es[11]? = some (.val rN (countN σ t)) → EvE T rN (tVar 11) es (countN σ t) := fun h => ev_var h
  refine go_seq (go_if (b := false) (eb_not (eb_B (ev_call (Door.num σ t, cntL ++ [.el (.int (-1)), .el (.int (-1 - (far : Int))), .el (.int ((countN σ t : Nat) : Int)), .el (.int ((countN σ t + far : Nat) : Int))]) (ea_cons ev_ref (ea_cons (ev_tup2 (ev_var (i := 4) rfl) (ev_var (i := 7) rfl)) (ea_cons (ev_frz frz_L (eo_cat (ev_var (i := 9) rfl) (ev_frz frz_L (eo_lst (R := rTh) (ea_cons z1 (ea_cons (zf rfl) (ea_cons (ev_thInt (ev_NI (eM rfl))) (ea_cons (ev_thInt (ev_NI (ev_addN (eM rfl) (ev_var (i := 1) rfl)))) ea_nil)))) (by simp))) (by simp [cl])))
    (ea_cons (due (k := 2) (x := .bn) rfl rfl) ea_nil)))) (And.intro (fun x hx => And.intro oT ?_) (by simp [cl]))))) (fun hb => by cases hb) fun _ => go_next (to_go ?_))
  · rcases List.mem_append.mp hx with hx | hx
    · exact .inl (cnt_not x hx)
    · simp only [List.mem_cons, List.not_mem_nil, or_false] at hx
      rcases hx with rfl | rfl | rfl | rfl
      · exact .inr ⟨_, rfl, by omega⟩
      · exact .inr ⟨_, rfl, by omega⟩
      · exact .inr ⟨_, rfl, by omega⟩
      · exact .inr ⟨_, rfl, by omega⟩
  -- the roots
  have eR : ∀ {es : List Cell}, es[4]? = some (.val (rL rN) σ) → es[6]? = some (.val rN σ.length) → EvE T (rL rN) (tOp rCat (tVar 4) (tLst (tCons (tVar 6) tNil))) es (σ ++ [σ.length]) := fun h h6 => ev_frz frz_L (eo_cat (ev_var h) (ev_frz frz_L (eo_lst (xs := [σ.length]) (ea_cons (ev_var h6) ea_nil) (by simp))) (by simp; omega))
  refine go_seq (go_if (b := false) (eb_not (eb_B (ev_call (Door.root σ t, bd ++ [lstN (List.range (σ.length + 1)), lstN (σ ++ [σ.length])]) (ea_cons ev_ref (ea_cons (ev_tup2 (ev_var (i := 4) rfl) (ev_var (i := 7) rfl)) (ea_cons (ev_frz frz_L (eo_cat (ev_var (i := 8) rfl) (ev_frz frz_L (eo_lst (R := rTh) (ea_cons (ev_thN (ev_frz frz_L (eo_listRg (ev_addN (ev_var (i := 6) rfl) (ev_k (n := 1) rfl)) (by omega)))) (ea_cons (ev_thN (eR rfl rfl)) ea_nil)) (by simp))) (by simp; omega)))
    (ea_cons (due (k := 3) (x := .nr) rfl rfl) ea_nil)))) (And.intro (fun x hx => And.intro oT ?_) (show (bd ++ [lstN (List.range (σ.length + 1)), lstN (σ ++ [σ.length])]).length ≤ 1000 by simp; omega))))) (fun hb => by cases hb) fun _ => go_next (to_go ?_))
  · rcases List.mem_append.mp hx with hx | hx
    · exact ⟨(hbd x hx).1, fun _ _ h => by rw [(hbd x hx).2] at h; cases h⟩
    · have len : ∀ {τ : List Nat} {ys : List El}, lstN τ = .lst ys → ys.length = τ.length := fun {τ ys} h => by
        have := Th.lst.inj h
        rw [← this, List.length_map, List.length_map]
      simp only [List.mem_cons, List.not_mem_nil, or_false] at hx
      rcases hx with rfl | rfl
      · refine ⟨ok_lstN (by rw [List.length_range]; omega), fun ys h _ => ?_⟩
        rw [len h, List.length_range]
        omega
      · refine ⟨ok_lstN (by simp; omega), fun ys h _ => ?_⟩
        rw [len h]
        simp
  -- orders of other many things
  refine go_seq (go_forS (xs := if σ.length < 59 then [σ ++ [σ.length], List.range (σ.length + 2)] else []) [12] (fun _ : Unit => lawC xs far σ t bd .no .no .no) (fun _ _ => True) () (evi_tup (ev_if (R := rT (rL rN)) (b := decide (σ.length < 59)) (eb_test (ev_ltN (ev_var (i := 6) rfl) (ev_k (n := 59) rfl)))
    (fun h => ev_is (ev_tupT (R := rL rN) (xs := [σ ++ [σ.length], List.range (σ.length + 2)]) (ea_cons (eR rfl rfl) (ea_cons (ev_frz frz_L (eo_listRg (ev_addN (ev_var (i := 6) rfl) (ev_k (n := 2) rfl)) (by omega))) ea_nil)) (by simp)) (if_pos (of_decide_eq_true h)).symm)
    fun h => ev_is (ev_tupT (R := rL rN) (xs := []) ea_nil (by simp)) (if_neg (of_decide_eq_false h)).symm)) (.keep (.keep (.keep (.keep (.keep (.keep (.keep (.keep (.keep (.keep (.keep (.drop (.keep .nil))))))))))))) trivial (fun G1 sh i τ s hx _ => ?_) fun _ _ => ?_)
  · have ho : OkO τ ∧ σ.length ≠ τ.length := by
      have hm := List.mem_of_getElem? hx
      split at hm
      · rename_i h59
        simp only [List.mem_cons, List.not_mem_nil, or_false] at hm
        rcases hm with rfl | rfl
        · exact ⟨⟨app_P hσ, by simp; omega⟩, by simp⟩
        · exact ⟨⟨range_P _, by simp; omega⟩, by simp⟩
      · cases hm
    obtain ⟨oτ, hne⟩ := ho
    refine ⟨_, tg_name, ?_⟩
    refine go_seq (go_if (b := false) (eb_not (eb_B (ev_call (Door.tur σ, [lstN τ]) (ea_cons ev_ref (ea_cons (ev_var (i := 4) rfl) (ea_cons (ev_frz frz_L (eo_lst (R := rTh) (ea_cons (ev_thN (ev_var (i := 12) rfl)) ea_nil) (by simp))) (ea_cons (due (k := 4) (x := .ot) rfl rfl) ea_nil)))) (And.intro (fun x hx => And.intro oσ ⟨τ, List.mem_singleton.mp hx, oτ, hne⟩) (by simp))))) (fun hb => by cases hb) fun _ => go_next (to_go ?_))
    exact go_if (b := false) (eb_not (eb_B (ev_call (Door.tur τ, [lstN σ]) (ea_cons ev_ref (ea_cons (ev_var (i := 12) rfl) (ea_cons (ev_frz frz_L (eo_lst (R := rTh) (ea_cons (ev_thN (ev_var (i := 4) rfl)) ea_nil) (by simp))) (ea_cons (due (k := 4) (x := .ot) rfl rfl) ea_nil)))) (And.intro (fun x hx => And.intro oτ ⟨σ, List.mem_singleton.mp hx, oσ, Ne.symm hne⟩) (by simp))))) (fun hb => by cases hb) fun _ => go_next (to_S () trivial (.keep (.keep (.keep (.keep (.keep (.keep (.keep (.keep (.keep (.keep (.keep (.keep (.drop .nil))))))))))))))
  refine to_go ?_
  -- what is just within
  have r60 : OkO (List.range 60) := ⟨range_P 60, by simp⟩
  have k10 : OkO [1, 0] := ⟨by unfold IsP; decide, by decide⟩
  have k0 : OkO [] := ⟨by unfold IsP; decide, by decide⟩
  have h59 : (rings (List.range 60))[59]? = some [59] := by decide +kernel
  have c10 : countN [1, 0] 2 = 0 := by decide +kernel
  have l2 : ∀ {es : List Cell} {a b : Nat}, EvE T (rL rN) (tLst (tCons (tC (.int (a : Int))) (tCons (tC (.int (b : Int))) tNil))) es [a, b] := ev_frz frz_L (eo_lst (ea_cons ev_nat (ea_cons ev_nat ea_nil)) (by simp))
  have l0 : ∀ {es : List Cell}, EvE T (rL rN) (tLst tNil) es [] := ev_frz frz_L (eo_lst0 (R := rN))
  have o2 : OkT1 [1, 0] 2 := ⟨k10, by omega, Nat.lt_of_lt_of_le (show 2 < 2 ^ 2 by decide) (Nat.pow_le_pow_right (by omega) (by omega))⟩
  refine go_seq (go_if (b := false) (eb_is (eb_or (a := false) (eb_is (eb_test (ev_neD dt_LN (ev_ixL (R := rL rN) (ev_frz frz_LL (eo_call (List.range 60) (ea_cons (ev_frz frz_L (eo_listRg (ev_k (n := 60) rfl) (by omega))) ea_nil) r60)) (ev_k (n := 59) rfl) h59) (ev_frz frz_L (eo_lst (xs := [59]) (ea_cons (ev_k rfl) ea_nil) (by simp))))) (by simp)) fun _ => eb_test (ev_neN (ev_call ([1, 0], 2) (ea_cons (l2 (a := 1) (b := 0)) (ea_cons (ev_k rfl) ea_nil)) o2) (ev_k (n := 0) rfl))) (by dsimp only; rw [c10]; rfl)) (fun hb => by cases hb) fun _ => go_next (to_go ?_))
  exact go_ret (ev_is (ev_andV (a := true) (ev_is (ev_eqD dt_LN (ev_var (x := σ) (i := 4) rfl) (ev_var (x := σ) (i := 5) rfl)) (decide_eq_true rfl)) fun _ => ev_eqD dt_LN (ev_frz frz_L (eo_call ([], -(far : Int)) (ea_cons l0 (ea_cons (ev_negI (ev_NI (ev_var (i := 1) rfl))) ea_nil)) k0)) l0) (by
    have : (pwL [] (-(far : Int))).length = 0 := by rw [pwL_length]; rfl
    rw [List.length_eq_zero_iff.mp this]
    rfl)) hq
end
end AO
set_option Elab.async false
set_option linter.all false
set_option maxRecDepth 100000
set_option maxHeartbeats 4000000
/-! AOErrH: what a head tells of the program's classes of errors. -/
namespace AO
open PySem PySem.Spec PyProof.Rows L2
def errL : List Str := ["BadOrder", "BadTimes", "BadNumber", "NoRoot", "Others"]
def errA (K : PySem.W.Frag) (C : Addr) : Bool := PySem.W.excIn K C [.type "ValueError", .type "Exception", .type "BaseException", .type "object"] "ValueError.__new__" && (PySem.W.keepIn K (.ref C) && (decide (PySem.W.subIn K (.ref C) (.type "BaseException") = some true) && decide (PySem.W.typeIn K (.ref C) = some (.type "type"))))
def errB (K : PySem.W.Frag) (D : Addr) : Bool := decide (PySem.W.findIn K (.ref D) "__getattribute__" = some (some (.builtin "BaseException.__getattribute__"))) && (decide (PySem.W.findIn K (.ref D) "__getattr__" = some none) && (PySem.W.hasDictIn K D && (decide (PySem.W.findIn K (.ref D) "__class__" = some (some (.builtin "object.__class__"))) && (decide (PySem.W.specialIn K (.builtin "object.__class__") "__get__" = some (some (.builtin "getset_descriptor.__get__"))) && (decide (PySem.W.takesIn K (.builtin "object.__class__") = some true) && decide (PySem.W.mroIn K D (.type "object") = some true))))))
def errO (K : PySem.W.Frag) (C O : Addr) : Bool := decide (PySem.W.kitOne K (.ref C) (.type "ValueError") = some true) && decide (PySem.W.exmOne K (.ref C) (.ref O) = some true)
def errAll (K : PySem.W.Frag) : Bool := (errL.all fun x => errA K (He.ga K x) && (errB K (He.ga K x) && errO K (He.ga K x) (He.ga K "OrderError"))) && (errL.all fun x => errL.all fun y => decide (PySem.W.kitOne K (.ref (He.ga K x)) (.ref (He.ga K y)) = some (decide (x = y))))
abbrev eaOf (K : PySem.W.Frag) : EA := ⟨He.ga K "OrderError", He.ga K "BadOrder", He.ga K "BadTimes", He.ga K "BadNumber", He.ga K "NoRoot", He.ga K "Others"⟩
theorem nm_mem (x : Err) : x.nm ∈ errL := by cases x <;> decide
theorem ad_of {K : PySem.W.Frag} (x : Err) : x.ad (eaOf K) = He.ga K x.nm := by cases x <;> rfl
theorem nm_same (x y : Err) : decide (x.nm = y.nm) = decide (x = y) := by cases x <;> cases y <;> rfl
theorem errF_of {K : PySem.W.Frag} {mg : Str → Option Value} (h : errAll K = true) (gO : mg "OrderError" = some (.ref (He.ga K "OrderError"))) (g : ∀ x : Err, mg x.nm = some (.ref (He.ga K x.nm))) : ErrF K mg (eaOf K) := by
  obtain ⟨h1, h2⟩ := He.ba h
  have hA := fun x : Err => He.ba (List.all_eq_true.mp h1 x.nm (nm_mem x))
  have hB := fun x : Err => He.ba (hA x).2
  refine ⟨gO, fun x => ?_, fun x => ?_, fun x => ?_, fun x y => ?_, fun x => ?_, fun x => ?_⟩
  · rw [ad_of]
    exact g x
  · rw [ad_of]
    obtain ⟨a1, a2⟩ := He.ba (hA x).1
    obtain ⟨a3, a4⟩ := He.ba a2
    obtain ⟨a5, a6⟩ := He.ba a4
    exact ⟨a1, g x, a3, of_decide_eq_true a5, of_decide_eq_true a6⟩
  · rw [ad_of]
    obtain ⟨a1, a2⟩ := He.ba (hB x).1
    obtain ⟨a3, a4⟩ := He.ba a2
    obtain ⟨a5, a6⟩ := He.ba a4
    obtain ⟨a7, a8⟩ := He.ba a6
    obtain ⟨a9, a10⟩ := He.ba a8
    obtain ⟨a11, a12⟩ := He.ba a10
    obtain ⟨b1, _⟩ := He.ba (hA x).1
    obtain ⟨_, b2⟩ := He.ba (hA x).1
    obtain ⟨_, b3⟩ := He.ba b2
    obtain ⟨b4, _⟩ := He.ba b3
    exact ⟨of_decide_eq_true a1, of_decide_eq_true a3, of_decide_eq_true b4, a5, of_decide_eq_true a7, of_decide_eq_true a9, of_decide_eq_true a11, of_decide_eq_true a12⟩
  · rw [ad_of, ad_of, ← nm_same]
    exact of_decide_eq_true (List.all_eq_true.mp (List.all_eq_true.mp h2 x.nm (nm_mem x)) y.nm (nm_mem y))
  · rw [ad_of]
    exact of_decide_eq_true (He.ba (hB x).2).1
  · rw [ad_of]
    exact of_decide_eq_true (He.ba (hB x).2).2
end AO
set_option Elab.async false
set_option linter.all false
set_option maxRecDepth 100000
set_option maxHeartbeats 0
/-! AOHead: the head of the row k03. -/
namespace AO
open PySem PySem.Spec PyProof.Rows L2
open C8 (Mak Met)
def hFn : List He.DefD := [⟨("is_whole", none), "is_whole", "is_whole", defArgs s_is_whole, defBody s_is_whole, defScope s_is_whole, [], []⟩,
  ⟨("is_order", none), "is_order", "is_order", defArgs s_is_order, defBody s_is_order, defScope s_is_order, [], []⟩,
  ⟨("check_order", none), "check_order", "check_order", defArgs s_check_order, defBody s_check_order, defScope s_check_order, [], []⟩,
  ⟨("check_times", none), "check_times", "check_times", defArgs s_check_times, defBody s_check_times, defScope s_check_times, [], []⟩,
  ⟨("rings_of", none), "rings_of", "rings_of", defArgs s_rings_of, defBody s_rings_of, defScope s_rings_of, [], []⟩,
  ⟨("common", none), "common", "common", defArgs s_common, defBody s_common, defScope s_common, [], []⟩,
  ⟨("done_often", none), "done_often", "done_often", defArgs s_done_often, defBody s_done_often, defScope s_done_often, [], []⟩,
  ⟨("by_length", none), "by_length", "by_length", defArgs s_by_length, defBody s_by_length, defScope s_by_length, [], []⟩,
  ⟨("rings_in", none), "rings_in", "rings_in", defArgs s_rings_in, defBody s_rings_in, defScope s_rings_in, [], []⟩,
  ⟨("back", none), "back", "back", defArgs s_back, defBody s_back, defScope s_back, [], []⟩,
  ⟨("done_again", none), "done_again", "done_again", defArgs s_done_again, defBody s_done_again, defScope s_done_again, [], []⟩,
  ⟨("check_all", none), "check_all", "check_all", defArgs s_check_all, defBody s_check_all, defScope s_check_all, [], []⟩,
  ⟨("picks", none), "picks", "picks", defArgs s_picks, defBody s_picks, defScope s_picks, [], []⟩,
  ⟨("orders_of", none), "orders_of", "orders_of", defArgs s_orders_of, defBody s_orders_of, defScope s_orders_of, [], []⟩,
  ⟨("groups_of", none), "groups_of", "groups_of", defArgs s_groups_of, defBody s_groups_of, defScope s_groups_of, [], []⟩,
  ⟨("power", none), "power", "power", defArgs s_power, defBody s_power, defScope s_power, [], []⟩,
  ⟨("weaves", none), "weaves", "weaves", defArgs s_weaves, defBody s_weaves, defScope s_weaves, [], []⟩,
  ⟨("ways_of", none), "ways_of", "ways_of", defArgs s_ways_of, defBody s_ways_of, defScope s_ways_of, [], []⟩,
  ⟨("begun_with", none), "begun_with", "begun_with", defArgs s_begun_with, defBody s_begun_with, defScope s_begun_with, [], []⟩,
  ⟨("count_of", none), "count_of", "count_of", defArgs s_count_of, defBody s_count_of, defScope s_count_of, [], []⟩,
  ⟨("told", none), "told", "told", defArgs s_told, defBody s_told, defScope s_told, [], []⟩,
  ⟨("how_many", none), "how_many", "how_many", defArgs s_how_many, defBody s_how_many, defScope s_how_many, [], []⟩,
  ⟨("root_by", none), "root_by", "root_by", defArgs s_root_by, defBody s_root_by, defScope s_root_by, [], []⟩,
  ⟨("number_of", none), "number_of", "number_of", defArgs s_number_of, defBody s_number_of, defScope s_number_of, [], []⟩,
  ⟨("turned", none), "turned", "turned", defArgs s_turned, defBody s_turned, defScope s_turned, [], []⟩,
  ⟨("_law_cell_at", none), "_law_cell_at", "_law_cell_at", defArgs s_law_cell_at, defBody s_law_cell_at, defScope s_law_cell_at, [], []⟩,
  ⟨("_law_draw", none), "_law_draw", "_law_draw", defArgs s_law_draw, defBody s_law_draw, defScope s_law_draw, [], []⟩,
  ⟨("_law_value", none), "_law_value", "_law_value", defArgs s_law_value, defBody s_law_value, defScope s_law_value, [], []⟩,
  ⟨("_law_order", none), "_law_order", "_law_order", defArgs s_law_order, defBody s_law_order, defScope s_law_order, [], []⟩,
  ⟨("_law_times", none), "_law_times", "_law_times", defArgs s_law_times, defBody s_law_times, defScope s_law_times, [], []⟩,
  ⟨("_law_kinds", none), "_law_kinds", "_law_kinds", defArgs s_law_kinds, defBody s_law_kinds, defScope s_law_kinds, [], []⟩,
  ⟨("_law_with_order", none), "_law_with_order", "_law_with_order", defArgs s_law_with_order, defBody s_law_with_order, defScope s_law_with_order, [], []⟩,
  ⟨("_law_with_times", none), "_law_with_times", "_law_with_times", defArgs s_law_with_times, defBody s_law_with_times, defScope s_law_with_times, [], []⟩,
  ⟨("_law_with_any", none), "_law_with_any", "_law_with_any", defArgs s_law_with_any, defBody s_law_with_any, defScope s_law_with_any, [], []⟩,
  ⟨("_law_with_number", none), "_law_with_number", "_law_with_number", defArgs s_law_with_number, defBody s_law_with_number, defScope s_law_with_number, [], []⟩,
  ⟨("_law_with_root", none), "_law_with_root", "_law_with_root", defArgs s_law_with_root, defBody s_law_with_root, defScope s_law_with_root, [], []⟩,
  ⟨("_law_told", none), "_law_told", "_law_told", defArgs s_law_told, defBody s_law_told, defScope s_law_told, [], []⟩,
  ⟨("_law_bad_orders", none), "_law_bad_orders", "_law_bad_orders", defArgs s_law_bad_orders, defBody s_law_bad_orders, defScope s_law_bad_orders, [], []⟩,
  ⟨("_law_all", none), "_law_all", "_law_all", defArgs s_law_all, defBody s_law_all, defScope s_law_all, [], []⟩,
  ⟨("law", none), "law", "law", defArgs s_law, defBody s_law, defScope s_law, [], []⟩]
def hFa : List He.Fa := [.glo "is_whole", .glo "is_order", .glo "check_order", .glo "check_times", .glo "rings_of", .glo "common", .glo "done_often", .glo "by_length", .glo "rings_in", .glo "back", .glo "done_again", .glo "check_all", .glo "picks", .glo "orders_of", .glo "groups_of", .glo "power", .glo "weaves", .glo "ways_of", .glo "begun_with", .glo "count_of", .glo "told", .glo "how_many", .glo "root_by", .glo "number_of", .glo "turned", .glo "_law_cell_at", .glo "_law_draw", .glo "_law_value", .glo "_law_order", .glo "_law_times", .glo "_law_kinds", .glo "_law_with_order", .glo "_law_with_times", .glo "_law_with_any", .glo "_law_with_number", .glo "_law_with_root", .glo "_law_told", .glo "_law_bad_orders", .glo "_law_all", .glo "law", .glo "OrderError", .glo "BadOrder", .glo "BadTimes", .glo "BadNumber", .glo "NoRoot", .glo "Others", .free "len", .free "range", .free "list", .free "sorted", .free "isinstance", .free "enumerate", .free "all", .free "any", .free "zip", .free "min", .free "sum", .free "set", .free "int", .free "bool", .free "ValueError", .int "MOST" 60]
def hTf : List He.Defn := [("by_length", none)]
def insB (K : PySem.W.Frag) (x : Str) : Bool := decide (PySem.W.findIn K (.ref (He.ga K x)) "__class__" = some (some (.builtin "object.__class__"))) && (decide (PySem.W.specialIn K (.builtin "object.__class__") "__get__" = some (some (.builtin "getset_descriptor.__get__"))) && (decide (PySem.W.takesIn K (.builtin "object.__class__") = some true) && decide (PySem.W.mroIn K (He.ga K x) (.type "object") = some true)))
def kitB2 (K : PySem.W.Frag) (x y : Str) (b : Bool) : Bool := decide (PySem.W.kitOne K (.ref (He.ga K x)) (.ref (He.ga K y)) = some b)
def clsL : List Str := ["Rooted", "Barred", "Turned", "Unlike"]
def hEx (K : PySem.W.Frag) : Bool := errAll K
abbrev hR : PySem.W.OpenRow := PySem.W.OpenLaw.row PySem.Challenge.rw_againorder_k05_refused
abbrev hHk : PySem.W.Hook := He.hookX 5 hFa hFn [] hTf hEx
def hOb (s : PySem.W.SharedT) : He.AlX := He.obsX 5 hFa hFn [] hTf hEx (HandSHeadRun.getT s)
theorem hOb_eq (s : PySem.W.SharedT) : hOb s = hHk.obs s.abs := He.obsX_eq (HandSHeadRun.getT_eq s)
def hLoose : List PySem.Str := (["_wall", "__name__", "OrderError", "BadOrder", "BadTimes", "BadNumber", "NoRoot", "Others", "MOST", "is_whole", "is_order", "check_order", "check_times", "rings_of", "rings_in", "common", "back", "done_often", "done_again", "by_length"] : List PySem.Str) ++ (["Answer", "part_of", "Rooted", "Barred", "Turned", "Unlike", "check_all", "picks", "orders_of", "groups_of", "power", "weaves", "ways_of", "begun_with", "count_of", "told", "how_many", "picked", "ordered", "woven"] : List PySem.Str) ++ (["root_of", "root_by", "number_picked", "number_ordered", "parted", "number_of", "number_within", "turn_of", "turned", "_law_cell_at", "_law_draw", "_law_value", "_law_order", "_law_times", "_law_kinds", "_law_with_order", "_law_with_times", "_law_with_any", "_law_with_number", "_law_with_root"] : List PySem.Str) ++ (["_law_told", "_law_bad_orders", "_law_all"] : List PySem.Str)
theorem hRun (w : World) : HandSHeadRun.RunEq hR (PySem.W.view hR.prog [68]) hHk hOb 9000 hLoose w := by
  intro os
  kernel_rfl
end AO
set_option Elab.async false
set_option linter.all false
set_option maxRecDepth 100000
set_option maxHeartbeats 4000000
namespace AO
open PySem L2
section
variable {P : Program} {w : World} {K : PySem.W.Frag} {mg : Str → Option Value} {base : Heap} {T : List (Addr × Str)}
theorem sc_common : FnScope ["one", "other"] ["one", "other"] (defScope s_common) := ⟨rfl, rfl, rfl, by decide +kernel, rfl, by decide +kernel, by decide +kernel⟩
theorem ok_common {f : Addr} {fd : FuncData} (Df : Def K mg "common" s_common ["one", "other"] f fd) (B : Bn mg) :
    Pr P w K mg base CX0 (0 + 1) "common" ["one", "other"] (spE T (fun i : Nat × Nat => [.val rN i.1, .val rN i.2]) (fun _ => True) rN fun i => Nat.gcd i.1 i.2) := by
  refine fn_E Df sc_common (fun _ => rfl) fun cdv A outer s H E hr => ⟨_, (pss_cons (ps_while PassesOwn.never (pt_cmpR op_gt (pv 1) pe_int (nomark _)) (pss_one (ps_par (i := 0) (j := 1) rfl sc_common.nd rfl rfl (by decide) rfl rfl (pa_cons (pv 1) (pa_cons (pe_op op_mod (pv 0) (pv 1)) pa_nil)) (by rfl))))
    (pss_one (ps_ret (pv 0)))), fun i G0 H0 D hp hq hn => ?_⟩
  refine go_seq (go_whileS (fun s : Nat × Nat => [.val rN s.1, .val rN s.2]) (fun s => Nat.gcd s.1 s.2 = Nat.gcd i.1 i.2) (fun s => s.2) (fun s => decide (0 < s.2)) i Wk.refl rfl (fun s ps => ?_) (fun s ps hb => ?_) fun s ps hb => ?_)
  · exact eb_test (ev_gtN (ev_var rfl) (ev_k rfl))
  · have hb := of_decide_eq_true hb
    refine go_parEE (by decide) (ev_var (i := 1) rfl) (ev_modN (ev_var (i := 0) rfl) (ev_var (i := 1) rfl) hb) (to_S (s.2, s.1 % s.2) ⟨?_, Nat.mod_lt _ hb⟩ Wk.refl)
    show Nat.gcd s.2 (s.1 % s.2) = _
    rw [← ps, Nat.gcd_comm s.1 s.2, Nat.gcd_rec s.2 s.1, Nat.gcd_comm]
  · refine to_go (go_ret (ev_var (i := 0) rfl) fun v G H st r => hq v G H st ?_)
    have h0 : s.2 = 0 := by simpa using hb
    rw [← ps, h0, Nat.gcd_zero_right]
    exact r
end
end AO
set_option Elab.async false
set_option linter.all false
set_option maxRecDepth 100000
set_option maxHeartbeats 4000000
/-! AOEnd: the law k03 holds. -/
namespace AO
open PySem PySem.Spec PyProof.Rows L2
open C8 (Mak Met)

theorem decOf {p : Prop} [Decidable p] (h : decide p = true) : p := of_decide_eq_true h
theorem tri0 : TriplesOk (#[] : Array Value).toList := by
  first | trivial | decide | (unfold TriplesOk; simp) | exact .nil | (intro i h; simp at h)
theorem mid_start {T : List (Addr × Str)} {K : PySem.W.Frag} {H : Hp} {a : Addr} {ns : List Int} (tb : LamX.Tabs T H) (h : SqL K H a (ns.map V.int)) (hl : ns.length ≤ 100000) : ∃ G, Mid T G H ∧ HoldA G [.ref a] [.val (rLs K rI) ns] := by
  have hold : ∀ G, SqL K G a (ns.map V.int) → HoldA G [.ref a] [.val (rLs K rI) ns] := fun G hs => .cons ⟨_, rfl, a, _, rfl, hs, by rw [List.length_map]; exact hl, of_int ns⟩ .nil
  rcases h with (h | ⟨o, h⟩) | h
  · refine ⟨one a (.lst (ns.map V.int)), ⟨fun b u e => ?_, fun b ps e => ?_, tb⟩, hold _ (.inl (.inl one_same))⟩
    · obtain ⟨rfl, rfl⟩ := one_some e
      exact h
    · have := (one_some e).2
      cases this
  · refine ⟨one a (.frz o (.lst (ns.map V.int))), ⟨fun b u e => ?_, fun b ps e => ?_, tb⟩, hold _ (.inl (.inr ⟨o, one_same⟩))⟩
    · obtain ⟨rfl, rfl⟩ := one_some e
      exact h
    · have := (one_some e).2
      cases this
  · exact ⟨none0, ⟨fun _ _ e => (nomatch e), fun _ _ e => (nomatch e), tb⟩, hold _ (.inr h)⟩
theorem law_at {l : PySem.W.OpenLaw} {w : World} {K : PySem.W.Frag} {h : Heap} {mg : Str → Option Value} {fa : Addr} (X : K.In h) (G : h.Ns mainGlobals mg) (hfa : mg ("law" : Str) = some (.ref fa)) (sx : He.SaysX hFa hFn [] hTf hEx w h K) :
    LamX.LawAtS l w K CX0 10 63 "_law_script" mg fa h := by
  have c := sx.t.d
  obtain ⟨fd_is_whole, D_is_whole⟩ : ∃ fd, Def K mg "is_whole" s_is_whole ["thing"] (He.fAd K ("is_whole", none)) fd := by
    obtain ⟨fd, F⟩ := c.def_ 0 rfl
    exact ⟨fd, F, He.glo_ok X G (c.fact 0 rfl), FunD.bindsN F fun _ _ _ _ _ _ us hl => match us, hl with | [_], _ => rfl⟩
  obtain ⟨fd_is_order, D_is_order⟩ : ∃ fd, Def K mg "is_order" s_is_order ["thing"] (He.fAd K ("is_order", none)) fd := by
    obtain ⟨fd, F⟩ := c.def_ 1 rfl
    exact ⟨fd, F, He.glo_ok X G (c.fact 1 rfl), FunD.bindsN F fun _ _ _ _ _ _ us hl => match us, hl with | [_], _ => rfl⟩
  obtain ⟨fd_check_order, D_check_order⟩ : ∃ fd, Def K mg "check_order" s_check_order ["order"] (He.fAd K ("check_order", none)) fd := by
    obtain ⟨fd, F⟩ := c.def_ 2 rfl
    exact ⟨fd, F, He.glo_ok X G (c.fact 2 rfl), FunD.bindsN F fun _ _ _ _ _ _ us hl => match us, hl with | [_], _ => rfl⟩
  obtain ⟨fd_check_times, D_check_times⟩ : ∃ fd, Def K mg "check_times" s_check_times ["times", "least"] (He.fAd K ("check_times", none)) fd := by
    obtain ⟨fd, F⟩ := c.def_ 3 rfl
    exact ⟨fd, F, He.glo_ok X G (c.fact 3 rfl), FunD.bindsN F fun _ _ _ _ _ _ us hl => match us, hl with | [_, _], _ => rfl⟩
  obtain ⟨fd_rings_of, D_rings_of⟩ : ∃ fd, Def K mg "rings_of" s_rings_of ["order"] (He.fAd K ("rings_of", none)) fd := by
    obtain ⟨fd, F⟩ := c.def_ 4 rfl
    exact ⟨fd, F, He.glo_ok X G (c.fact 4 rfl), FunD.bindsN F fun _ _ _ _ _ _ us hl => match us, hl with | [_], _ => rfl⟩
  obtain ⟨fd_common, D_common⟩ : ∃ fd, Def K mg "common" s_common ["one", "other"] (He.fAd K ("common", none)) fd := by
    obtain ⟨fd, F⟩ := c.def_ 5 rfl
    exact ⟨fd, F, He.glo_ok X G (c.fact 5 rfl), FunD.bindsN F fun _ _ _ _ _ _ us hl => match us, hl with | [_, _], _ => rfl⟩
  obtain ⟨fd_done_often, D_done_often⟩ : ∃ fd, Def K mg "done_often" s_done_often ["order", "times"] (He.fAd K ("done_often", none)) fd := by
    obtain ⟨fd, F⟩ := c.def_ 6 rfl
    exact ⟨fd, F, He.glo_ok X G (c.fact 6 rfl), FunD.bindsN F fun _ _ _ _ _ _ us hl => match us, hl with | [_, _], _ => rfl⟩
  obtain ⟨fd_by_length, D_by_length⟩ : ∃ fd, Def K mg "by_length" s_by_length ["order"] (He.fAd K ("by_length", none)) fd := by
    obtain ⟨fd, F⟩ := c.def_ 7 rfl
    exact ⟨fd, F, He.glo_ok X G (c.fact 7 rfl), FunD.bindsN F fun _ _ _ _ _ _ us hl => match us, hl with | [_], _ => rfl⟩
  obtain ⟨fd_rings_in, D_rings_in⟩ : ∃ fd, Def K mg "rings_in" s_rings_in ["order"] (He.fAd K ("rings_in", none)) fd := by
    obtain ⟨fd, F⟩ := c.def_ 8 rfl
    exact ⟨fd, F, He.glo_ok X G (c.fact 8 rfl), FunD.bindsN F fun _ _ _ _ _ _ us hl => match us, hl with | [_], _ => rfl⟩
  obtain ⟨fd_back, D_back⟩ : ∃ fd, Def K mg "back" s_back ["order"] (He.fAd K ("back", none)) fd := by
    obtain ⟨fd, F⟩ := c.def_ 9 rfl
    exact ⟨fd, F, He.glo_ok X G (c.fact 9 rfl), FunD.bindsN F fun _ _ _ _ _ _ us hl => match us, hl with | [_], _ => rfl⟩
  obtain ⟨fd_done_again, D_done_again⟩ : ∃ fd, Def K mg "done_again" s_done_again ["order", "times"] (He.fAd K ("done_again", none)) fd := by
    obtain ⟨fd, F⟩ := c.def_ 10 rfl
    exact ⟨fd, F, He.glo_ok X G (c.fact 10 rfl), FunD.bindsN F fun _ _ _ _ _ _ us hl => match us, hl with | [_, _], _ => rfl⟩
  obtain ⟨fd_check_all, D_check_all⟩ : ∃ fd, Def K mg "check_all" s_check_all ["order", "times"] (He.fAd K ("check_all", none)) fd := by
    obtain ⟨fd, F⟩ := c.def_ 11 rfl
    exact ⟨fd, F, He.glo_ok X G (c.fact 11 rfl), FunD.bindsN F fun _ _ _ _ _ _ us hl => match us, hl with | [_, _], _ => rfl⟩
  obtain ⟨fd_picks, D_picks⟩ : ∃ fd, Def K mg "picks" s_picks ["many", "some"] (He.fAd K ("picks", none)) fd := by
    obtain ⟨fd, F⟩ := c.def_ 12 rfl
    exact ⟨fd, F, He.glo_ok X G (c.fact 12 rfl), FunD.bindsN F fun _ _ _ _ _ _ us hl => match us, hl with | [_, _], _ => rfl⟩
  obtain ⟨fd_orders_of, D_orders_of⟩ : ∃ fd, Def K mg "orders_of" s_orders_of ["many"] (He.fAd K ("orders_of", none)) fd := by
    obtain ⟨fd, F⟩ := c.def_ 13 rfl
    exact ⟨fd, F, He.glo_ok X G (c.fact 13 rfl), FunD.bindsN F fun _ _ _ _ _ _ us hl => match us, hl with | [_], _ => rfl⟩
  obtain ⟨fd_groups_of, D_groups_of⟩ : ∃ fd, Def K mg "groups_of" s_groups_of ["length", "times", "many"] (He.fAd K ("groups_of", none)) fd := by
    obtain ⟨fd, F⟩ := c.def_ 14 rfl
    exact ⟨fd, F, He.glo_ok X G (c.fact 14 rfl), FunD.bindsN F fun _ _ _ _ _ _ us hl => match us, hl with | [_, _, _], _ => rfl⟩
  obtain ⟨fd_power, D_power⟩ : ∃ fd, Def K mg "power" s_power ["number", "often"] (He.fAd K ("power", none)) fd := by
    obtain ⟨fd, F⟩ := c.def_ 15 rfl
    exact ⟨fd, F, He.glo_ok X G (c.fact 15 rfl), FunD.bindsN F fun _ _ _ _ _ _ us hl => match us, hl with | [_, _], _ => rfl⟩
  obtain ⟨fd_weaves, D_weaves⟩ : ∃ fd, Def K mg "weaves" s_weaves ["length", "size"] (He.fAd K ("weaves", none)) fd := by
    obtain ⟨fd, F⟩ := c.def_ 16 rfl
    exact ⟨fd, F, He.glo_ok X G (c.fact 16 rfl), FunD.bindsN F fun _ _ _ _ _ _ us hl => match us, hl with | [_, _], _ => rfl⟩
  obtain ⟨fd_ways_of, D_ways_of⟩ : ∃ fd, Def K mg "ways_of" s_ways_of ["length", "times", "many"] (He.fAd K ("ways_of", none)) fd := by
    obtain ⟨fd, F⟩ := c.def_ 17 rfl
    exact ⟨fd, F, He.glo_ok X G (c.fact 17 rfl), FunD.bindsN F fun _ _ _ _ _ _ us hl => match us, hl with | [_, _, _], _ => rfl⟩
  obtain ⟨fd_begun_with, D_begun_with⟩ : ∃ fd, Def K mg "begun_with" s_begun_with ["length", "size", "many"] (He.fAd K ("begun_with", none)) fd := by
    obtain ⟨fd, F⟩ := c.def_ 18 rfl
    exact ⟨fd, F, He.glo_ok X G (c.fact 18 rfl), FunD.bindsN F fun _ _ _ _ _ _ us hl => match us, hl with | [_, _, _], _ => rfl⟩
  obtain ⟨fd_count_of, D_count_of⟩ : ∃ fd, Def K mg "count_of" s_count_of ["order", "times"] (He.fAd K ("count_of", none)) fd := by
    obtain ⟨fd, F⟩ := c.def_ 19 rfl
    exact ⟨fd, F, He.glo_ok X G (c.fact 19 rfl), FunD.bindsN F fun _ _ _ _ _ _ us hl => match us, hl with | [_, _], _ => rfl⟩
  obtain ⟨fd_told, D_told⟩ : ∃ fd, Def K mg "told" s_told ["order", "times"] (He.fAd K ("told", none)) fd := by
    obtain ⟨fd, F⟩ := c.def_ 20 rfl
    exact ⟨fd, F, He.glo_ok X G (c.fact 20 rfl), FunD.bindsN F fun _ _ _ _ _ _ us hl => match us, hl with | [_, _], _ => rfl⟩
  obtain ⟨fd_how_many, D_how_many⟩ : ∃ fd, Def K mg "how_many" s_how_many ["order", "times"] (He.fAd K ("how_many", none)) fd := by
    obtain ⟨fd, F⟩ := c.def_ 21 rfl
    exact ⟨fd, F, He.glo_ok X G (c.fact 21 rfl), FunD.bindsN F fun _ _ _ _ _ _ us hl => match us, hl with | [_, _], _ => rfl⟩
  obtain ⟨fd_root_by, D_root_by⟩ : ∃ fd, Def K mg "root_by" s_root_by ["order", "times", "number"] (He.fAd K ("root_by", none)) fd := by
    obtain ⟨fd, F⟩ := c.def_ 22 rfl
    exact ⟨fd, F, He.glo_ok X G (c.fact 22 rfl), FunD.bindsN F fun _ _ _ _ _ _ us hl => match us, hl with | [_, _, _], _ => rfl⟩
  obtain ⟨fd_number_of, D_number_of⟩ : ∃ fd, Def K mg "number_of" s_number_of ["order", "times", "root"] (He.fAd K ("number_of", none)) fd := by
    obtain ⟨fd, F⟩ := c.def_ 23 rfl
    exact ⟨fd, F, He.glo_ok X G (c.fact 23 rfl), FunD.bindsN F fun _ _ _ _ _ _ us hl => match us, hl with | [_, _, _], _ => rfl⟩
  obtain ⟨fd_turned, D_turned⟩ : ∃ fd, Def K mg "turned" s_turned ["one", "other"] (He.fAd K ("turned", none)) fd := by
    obtain ⟨fd, F⟩ := c.def_ 24 rfl
    exact ⟨fd, F, He.glo_ok X G (c.fact 24 rfl), FunD.bindsN F fun _ _ _ _ _ _ us hl => match us, hl with | [_, _], _ => rfl⟩
  obtain ⟨fd_law_cell_at, D_law_cell_at⟩ : ∃ fd, Def K mg "_law_cell_at" s_law_cell_at ["_law_script", "_law_k"] (He.fAd K ("_law_cell_at", none)) fd := by
    obtain ⟨fd, F⟩ := c.def_ 25 rfl
    exact ⟨fd, F, He.glo_ok X G (c.fact 25 rfl), FunD.bindsN F fun _ _ _ _ _ _ us hl => match us, hl with | [_, _], _ => rfl⟩
  obtain ⟨fd_law_draw, D_law_draw⟩ : ∃ fd, Def K mg "_law_draw" s_law_draw ["_law_cell", "_law_k", "_law_many"] (He.fAd K ("_law_draw", none)) fd := by
    obtain ⟨fd, F⟩ := c.def_ 26 rfl
    exact ⟨fd, F, He.glo_ok X G (c.fact 26 rfl), FunD.bindsN F fun _ _ _ _ _ _ us hl => match us, hl with | [_, _, _], _ => rfl⟩
  obtain ⟨fd_law_value, D_law_value⟩ : ∃ fd, Def K mg "_law_value" s_law_value ["_law_cell", "_law_k", "_law_limit"] (He.fAd K ("_law_value", none)) fd := by
    obtain ⟨fd, F⟩ := c.def_ 27 rfl
    exact ⟨fd, F, He.glo_ok X G (c.fact 27 rfl), FunD.bindsN F fun _ _ _ _ _ _ us hl => match us, hl with | [_, _, _], _ => rfl⟩
  obtain ⟨fd_law_order, D_law_order⟩ : ∃ fd, Def K mg "_law_order" s_law_order ["_law_script", "_law_by"] (He.fAd K ("_law_order", none)) fd := by
    obtain ⟨fd, F⟩ := c.def_ 28 rfl
    exact ⟨fd, F, He.glo_ok X G (c.fact 28 rfl), FunD.bindsN F fun _ _ _ _ _ _ us hl => match us, hl with | [_, _], _ => rfl⟩
  obtain ⟨fd_law_times, D_law_times⟩ : ∃ fd, Def K mg "_law_times" s_law_times ["_law_script", "_law_k"] (He.fAd K ("_law_times", none)) fd := by
    obtain ⟨fd, F⟩ := c.def_ 29 rfl
    exact ⟨fd, F, He.glo_ok X G (c.fact 29 rfl), FunD.bindsN F fun _ _ _ _ _ _ us hl => match us, hl with | [_, _], _ => rfl⟩
  obtain ⟨fd_law_kinds, D_law_kinds⟩ : ∃ fd, Def K mg "_law_kinds" s_law_kinds ["_law_error"] (He.fAd K ("_law_kinds", none)) fd := by
    obtain ⟨fd, F⟩ := c.def_ 30 rfl
    exact ⟨fd, F, He.glo_ok X G (c.fact 30 rfl), FunD.bindsN F fun _ _ _ _ _ _ us hl => match us, hl with | [_], _ => rfl⟩
  obtain ⟨fd_law_with_order, D_law_with_order⟩ : ∃ fd, Def K mg "_law_with_order" s_law_with_order ["_law_door", "_law_order_here"] (He.fAd K ("_law_with_order", none)) fd := by
    obtain ⟨fd, F⟩ := c.def_ 31 rfl
    exact ⟨fd, F, He.glo_ok X G (c.fact 31 rfl), FunD.bindsN F fun _ _ _ _ _ _ us hl => match us, hl with | [_, _], _ => rfl⟩
  obtain ⟨fd_law_with_times, D_law_with_times⟩ : ∃ fd, Def K mg "_law_with_times" s_law_with_times ["_law_where", "_law_times_here"] (He.fAd K ("_law_with_times", none)) fd := by
    obtain ⟨fd, F⟩ := c.def_ 32 rfl
    exact ⟨fd, F, He.glo_ok X G (c.fact 32 rfl), FunD.bindsN F fun _ _ _ _ _ _ us hl => match us, hl with | [_, _], _ => rfl⟩
  obtain ⟨fd_law_with_any, D_law_with_any⟩ : ∃ fd, Def K mg "_law_with_any" s_law_with_any ["_law_order_here", "_law_times_here"] (He.fAd K ("_law_with_any", none)) fd := by
    obtain ⟨fd, F⟩ := c.def_ 33 rfl
    exact ⟨fd, F, He.glo_ok X G (c.fact 33 rfl), FunD.bindsN F fun _ _ _ _ _ _ us hl => match us, hl with | [_, _], _ => rfl⟩
  obtain ⟨fd_law_with_number, D_law_with_number⟩ : ∃ fd, Def K mg "_law_with_number" s_law_with_number ["_law_where", "_law_number"] (He.fAd K ("_law_with_number", none)) fd := by
    obtain ⟨fd, F⟩ := c.def_ 34 rfl
    exact ⟨fd, F, He.glo_ok X G (c.fact 34 rfl), FunD.bindsN F fun _ _ _ _ _ _ us hl => match us, hl with | [_, _], _ => rfl⟩
  obtain ⟨fd_law_with_root, D_law_with_root⟩ : ∃ fd, Def K mg "_law_with_root" s_law_with_root ["_law_where", "_law_root"] (He.fAd K ("_law_with_root", none)) fd := by
    obtain ⟨fd, F⟩ := c.def_ 35 rfl
    exact ⟨fd, F, He.glo_ok X G (c.fact 35 rfl), FunD.bindsN F fun _ _ _ _ _ _ us hl => match us, hl with | [_, _], _ => rfl⟩
  obtain ⟨fd_law_told, D_law_told⟩ : ∃ fd, Def K mg "_law_told" s_law_told ["_law_ask", "_law_one", "_law_other"] (He.fAd K ("_law_told", none)) fd := by
    obtain ⟨fd, F⟩ := c.def_ 36 rfl
    exact ⟨fd, F, He.glo_ok X G (c.fact 36 rfl), FunD.bindsN F fun _ _ _ _ _ _ us hl => match us, hl with | [_, _, _], _ => rfl⟩
  obtain ⟨fd_law_bad_orders, D_law_bad_orders⟩ : ∃ fd, Def K mg "_law_bad_orders" s_law_bad_orders ["_law_order_here", "_law_far"] (He.fAd K ("_law_bad_orders", none)) fd := by
    obtain ⟨fd, F⟩ := c.def_ 37 rfl
    exact ⟨fd, F, He.glo_ok X G (c.fact 37 rfl), FunD.bindsN F fun _ _ _ _ _ _ us hl => match us, hl with | [_, _], _ => rfl⟩
  obtain ⟨fd_law_all, D_law_all⟩ : ∃ fd, Def K mg "_law_all" s_law_all ["_law_ask", "_law_one", "_law_things", "_law_due"] (He.fAd K ("_law_all", none)) fd := by
    obtain ⟨fd, F⟩ := c.def_ 38 rfl
    exact ⟨fd, F, He.glo_ok X G (c.fact 38 rfl), FunD.bindsN F fun _ _ _ _ _ _ us hl => match us, hl with | [_, _, _, _], _ => rfl⟩
  obtain ⟨fd_law, D_law⟩ : ∃ fd, Def K mg "law" s_law ["_law_script"] (He.fAd K ("law", none)) fd := by
    obtain ⟨fd, F⟩ := c.def_ 39 rfl
    exact ⟨fd, F, He.glo_ok X G (c.fact 39 rfl), FunD.bindsN F fun _ _ _ _ _ _ us hl => match us, hl with | [_], _ => rfl⟩
  have B : Bn mg := ⟨He.free_ok X G (c.fact 46 rfl), He.free_ok X G (c.fact 47 rfl), He.free_ok X G (c.fact 48 rfl), He.free_ok X G (c.fact 49 rfl), He.free_ok X G (c.fact 50 rfl), He.free_ok X G (c.fact 51 rfl), He.free_ok X G (c.fact 52 rfl), He.free_ok X G (c.fact 53 rfl), He.free_ok X G (c.fact 54 rfl), He.free_ok X G (c.fact 55 rfl), He.free_ok X G (c.fact 56 rfl), He.free_ok X G (c.fact 57 rfl), He.free_ok X G (c.fact 58 rfl), He.free_ok X G (c.fact 59 rfl), He.int_ok X G (c.fact 61 rfl)⟩
  have XF : ErrF K mg (eaOf K) := errF_of (show hEx K = true from sx.more) (He.glo_ok X G (c.fact 40 rfl)) fun x => by
    cases x
    · exact He.glo_ok X G (c.fact 41 rfl)
    · exact He.glo_ok X G (c.fact 42 rfl)
    · exact He.glo_ok X G (c.fact 43 rfl)
    · exact He.glo_ok X G (c.fact 44 rfl)
    · exact He.glo_ok X G (c.fact 45 rfl)
  have eLaw : He.fAd K ("law", none) = fa := by
    have := D_law.g
    rw [hfa] at this
    exact (Value.ref.inj (Option.some.inj this)).symm
  -- by_length's code object
  obtain ⟨oc, od, dV, kV, doc, pm, an, cdv, ct, osl, efd, lk, hcd, _, _⟩ := D_by_length.F.ex
  obtain ⟨cc, ecc⟩ := He.codeIn_ref hcd
  have hcode : fd_by_length.code = .ref cc := by
    rw [efd]
    exact ecc
  have ecT : (He.cT K ("by_length", none)).1 = cc := He.codeOf_eq lk hcode
  generalize hPt : (He.cT K ("by_length", none)).2 = Pt
  refine ⟨fd_law, [He.cT K ("by_length", none)], spLaw [(Pt, ("by_length" : Str) ++ ".<locals>." ++ "<lambda>")] K, fun p hp => ?_, fun p hp => ?_, fun p hp => ?_, fun s u => FunD.bindsA (ps := ["_law_script"]) D_law.F (fun _ _ _ _ _ _ us hl => match us, hl with | [_], _ => rfl) s [u] rfl, fun H a ns hl hbits hH hS => ?_, fun base KX hG hTB => ?_⟩
  · rw [List.mem_singleton.mp hp]
    exact sx.empty _ (List.mem_singleton.mpr rfl)
  · rw [List.mem_singleton.mp hp]
    exact sx.out _ (List.mem_singleton.mpr rfl)
  · rw [List.mem_singleton.mp hp]
    exact PySem.W.codeHd_of_K X (sx.hd _ (List.mem_singleton.mpr rfl))
  · have tb : LamX.Tabs [(Pt, ("by_length" : Str) ++ ".<locals>." ++ "<lambda>")] H := fun p hp => by
      rw [List.mem_singleton.mp hp]
      refine ⟨#[], ?_, ?_, fun pos cv hcv => ?_⟩
      · have := hH _ (List.mem_singleton.mpr rfl)
        rw [hPt] at this
        exact this
      · exact tri0
      · cases hcv
    obtain ⟨G, m, hh⟩ := mid_start tb hS (by omega)
    exact ⟨ns, G, ⟨hbits, hl⟩, m, hh, fun v G' H' _ r => r⟩
  · generalize hT : [(Pt, ("by_length" : Str) ++ ".<locals>." ++ "<lambda>")] = T
    have TB := hTB _ (List.mem_singleton.mpr rfl)
    rw [ecT, hPt] at TB
    have p_is_whole := ok_is_whole (P := l.prog) (w := w) (base := base) (T := T) D_is_whole B
    have p_is_order := ok_is_order D_is_order B p_is_whole
    have p_check_order := ok_check_order D_check_order B p_is_order
    have p_rings_of := ok_rings_of (P := l.prog) (w := w) (base := base) (T := T) D_rings_of B
    have p_common := ok_common (P := l.prog) (w := w) (base := base) (T := T) D_common B
    have p_done_often := ok_done_often D_done_often B p_rings_of
    have p_by_length := ok_by_length D_by_length hcode TB hT.symm B p_rings_of
    have p_rings_in := ok_rings_in D_rings_in B p_check_order p_rings_of
    have p_ctN := ok_check_times D_check_times B p_is_whole
    have p_done_again := ok_done_again D_done_again B p_check_order p_ctN p_done_often
    have p_check_times := ok_check_times1 D_check_times B p_is_whole
    have p_check_all := ok_check_all D_check_all B p_check_order p_check_times
    have p_picks := ok_picks (P := l.prog) (w := w) (base := base) (T := T) D_picks B
    have p_orders_of := ok_orders_of (P := l.prog) (w := w) (base := base) (T := T) D_orders_of B
    have p_power := ok_power (P := l.prog) (w := w) (base := base) (T := T) D_power B
    have p_weaves := ok_weaves D_weaves B p_orders_of p_power
    have p_begun := ok_begun_with D_begun_with B p_picks p_weaves
    have p_groups := ok_groups_of D_groups_of B p_common
    have p_ways := ok_ways_of D_ways_of B p_groups p_begun
    have p_count := ok_count_of D_count_of B p_by_length p_ways
    have p_many := ok_how_many D_how_many B p_check_all p_count
    have p_cell := ok_cell_at (P := l.prog) (w := w) (base := base) (T := T) D_law_cell_at B
    have p_draw := ok_draw (P := l.prog) (w := w) (base := base) (T := T) D_law_draw B
    have p_value := ok_value D_law_value B p_draw
    have p_order := ok_order D_law_order B p_draw p_value p_cell
    have p_times := ok_times D_law_times B p_draw p_value p_cell
    have wT := ok_wholeT (P := l.prog) (w := w) (base := base) (T := T) D_is_whole B
    have oT := ok_orderT D_is_order B wT
    have x_co := bad_check_order D_check_order B (XF.xc .bo) oT
    have x_ct := bad_check_times D_check_times B (XF.xc .bt) wT
    have x_ca := bad_check_all (e := eaOf K) D_check_all B p_check_order x_co x_ct
    have x_da := bad_done_again (e := eaOf K) D_done_again B p_check_order x_co x_ct
    have x_ri := bad_rings_in (e := eaOf K) D_rings_in B x_co
    have x_ba := bad_back (e := eaOf K) D_back B x_co
    have x_to := bad_told (e := eaOf K) D_told B x_ca
    have x_hm := bad_how_many (e := eaOf K) D_how_many B x_ca
    have x_rb := bad_root_by (e := eaOf K) D_root_by B (XF.xc .bn) p_check_all x_ca wT p_count
    have x_no := bad_number_of (e := eaOf K) D_number_of B (XF.xc .nr) p_check_all x_ca oT p_done_often
    have x_tu := bad_turned (e := eaOf K) D_turned B (XF.xc .ot) p_check_order x_co
    have d1 := ok_with_order (e := eaOf K) D_law_with_order B x_ri x_ba x_da x_to x_hm x_rb x_no x_tu
    have d2 := ok_with_any (e := eaOf K) D_law_with_any B x_da
    have d3 := ok_with_times (e := eaOf K) D_law_with_times B x_to x_hm x_rb x_no
    have d4 := ok_with_number (e := eaOf K) D_law_with_number B x_rb
    have d5 := ok_with_root (e := eaOf K) D_law_with_root B x_no
    have drs := doors_ok (fa := ⟨He.fAd K ("_law_with_order", none), He.fAd K ("_law_with_any", none), He.fAd K ("_law_with_times", none), He.fAd K ("_law_with_number", none), He.fAd K ("_law_with_root", none), He.fAd K ("turned", none)⟩) D_law_with_order.g D_law_with_any.g D_law_with_times.g D_law_with_number.g D_law_with_root.g D_turned.g d1 d2 d3 d4 d5 x_tu
    have hVE : mg ("ValueError" : Str) = none := He.free_ok X G (c.fact 60 rfl)
    have kd := ok_kinds (P := l.prog) (w := w) (base := base) (T := T) D_law_kinds B XF hVE
    have p_lt := ok_ltold (fa := ⟨He.fAd K ("_law_with_order", none), He.fAd K ("_law_with_any", none), He.fAd K ("_law_with_times", none), He.fAd K ("_law_with_number", none), He.fAd K ("_law_with_root", none), He.fAd K ("turned", none)⟩) D_law_told B XF kd drs
    have p_all := ok_lall (fa := ⟨He.fAd K ("_law_with_order", none), He.fAd K ("_law_with_any", none), He.fAd K ("_law_with_times", none), He.fAd K ("_law_with_number", none), He.fAd K ("_law_with_root", none), He.fAd K ("turned", none)⟩) D_law_all B p_lt
    have p_bo := ok_bad_orders (P := l.prog) (w := w) (base := base) (T := T) D_law_bad_orders B
    have p_law := ok_law (fa := ⟨He.fAd K ("_law_with_order", none), He.fAd K ("_law_with_any", none), He.fAd K ("_law_with_times", none), He.fAd K ("_law_with_number", none), He.fAd K ("_law_with_root", none), He.fAd K ("turned", none)⟩) D_law B D_law_with_order.g D_law_with_any.g D_law_with_times.g D_law_with_number.g D_law_with_root.g D_turned.g p_cell p_value p_order p_times p_bo p_all p_many p_rings_in p_done_again
    rw [eLaw] at p_law
    exact p_law
end AO
set_option Elab.async false
set_option linter.all false
set_option maxRecDepth 100000
set_option maxHeartbeats 0
open PySem PySem.W PySem.Calls PyProof.Rows
theorem PySem.Challenge.cw_againorder_k05_refused_holds : PySem.Challenge.rw_againorder_k05_refused.Holds := by
  w_on; o_law
  refine HandSHeadRun.head_any (r := OpenLaw.row PySem.Challenge.rw_againorder_k05_refused) (q := view (OpenLaw.row PySem.Challenge.rw_againorder_k05_refused).prog [68]) (H := AO.hHk) (ob := AO.hOb) (M := 9000) (loose := AO.hLoose)
    (d := HandSHeadRun.topDef (OpenLaw.row PySem.Challenge.rw_againorder_k05_refused).prog 68) (kwd := []) AO.hOb_eq (by kernel_rfl) (fun s => by kernel_rfl) AO.hRun (by kernel_rfl) (by kernel_rfl) (by kernel_rfl) (by rfl) (by first | assumption | decide +kernel) (by decide +kernel) ⟨rfl, rfl, rfl, rfl, rfl, by decide +kernel⟩ ?hw ?hc
  case hw => w_witness2
  case hc =>
    refine LamX.walk_ofTsE (l := PySem.Challenge.rw_againorder_k05_refused) (n := 63) (k := 10) (x := "_law_script") (CX := fun _ => L2.CX0) rfl (by decide) (by kernel_rfl) ⟨rfl, by decide, by decide⟩ ?F (fun _ _ _ _ _ z => z)
    intro w mg fa h Y G hmg0
    obtain ⟨K, KX, c⟩ := Y
    have hmg : mg ("law" : PySem.Str) = some (.ref fa) := by
      have e : (HandSHeadRun.topDef (OpenLaw.row PySem.Challenge.rw_againorder_k05_refused).prog 68).name = ("law" : PySem.Str) := by kernel_rfl
      rw [← e]
      exact hmg0
    exact ⟨K, KX, AO.law_at KX G hmg c⟩
