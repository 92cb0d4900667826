import PyProof.Rows.All
import Wide.All
import OpenK.AllK
import Wide.FinOn
import HandS.ForMost
import HandS.IsInst
import HandS.Style
import HandS.DictComp
import HandS.ListItems
import HandS.MakeKwOnly
import HandS.More
import KE.KDictZip
import KE.KDictItemsList
import KE.GoesEnum
import HandS.Iter
import HandS.NoneIn
import HandS.Finally
import PyProof.ReprRoads
import HandS.Defaults
import KE.KDictPairs
import HandS.EndBits
import HandS.Wide
import PySem.Challenge.RW_wearybeams_k38_alike_for_ever
section
set_option Elab.async false
set_option linter.all false
set_option maxRecDepth 100000
set_option maxHeartbeats 2000000
/-! Mir, part A: data D, the monad M with the law's drawing state, what represents what, what an expression and a statement mirror. -/
namespace Mir
open PySem PySem.Spec PyProof.Rows L2

abbrev St := L2.St
inductive D where
  | non | bl (b : Bool) | int (i : Int) | str (x : Str)
  | lst (xs : List D) | ro (xs : List D) | tup (xs : List D) | dic (kvs : List (Key × D)) | obj (c : Str) (fs : List (Str × D)) | st | ln (xs : List D) | plt (xs : List D)

/-- the law's drawing state -/
structure Drw where
  dg : Int
  gr : List Int
  ce : List Int
  tn : Int

inductive R (α : Type) where
  | ok (a : α) (s : Drw)
  | bad
def M (α : Type) := Drw → R α
def M.pur {α : Type} (a : α) : M α := fun s => .ok a s
def M.bnd {α β : Type} (m : M α) (f : α → M β) : M β := fun s => match m s with
  | .ok a s' => f a s'
  | .bad => .bad
instance : Monad M where
  pure := M.pur
  bind := M.bnd
def bad {α : Type} : M α := fun _ => .bad
def guardB {α : Type} (b : Bool) (m : M α) : M α := if b = true then m else bad
def Wp {α : Type} (r : R α) (P : α → Drw → Prop) : Prop := match r with
  | .ok a s => P a s
  | .bad => False
section
variable {α β : Type} {m : M α} {f : α → M β} {s : Drw} {P : α → Drw → Prop}
theorem pure_run (a : α) : (pure a : M α) s = .ok a s := rfl
theorem bind_run : (m >>= f) s = match m s with
  | .ok a s' => f a s'
  | .bad => .bad := rfl
theorem Wp_pure {a : α} : Wp ((pure a : M α) s) P ↔ P a s := Iff.rfl
theorem Wp_bind {P : β → Drw → Prop} : Wp ((m >>= f) s) P ↔ Wp (m s) fun a s' => Wp (f a s') P := by
  rw [bind_run]
  cases m s with
  | ok a s' => exact Iff.rfl
  | bad => exact Iff.rfl
theorem Wp.imp {r : R α} {P Q : α → Drw → Prop} (h : Wp r P) (k : ∀ a s, P a s → Q a s) : Wp r Q := by
  cases r with
  | ok a s' => exact k _ _ h
  | bad => exact h
theorem Wp_guard {b : Bool} : Wp (guardB b m s) P ↔ b = true ∧ Wp (m s) P := by
  unfold guardB
  cases b with
  | true => exact ⟨fun h => ⟨rfl, h⟩, fun h => h.2⟩
  | false => exact ⟨fun h => h.elim, fun h => nomatch h.1⟩
theorem pure_bind' (a : α) (f : α → M β) : (pure a >>= f) = f a := rfl
theorem bind_pure' (m : M α) : (m >>= pure) = m := by
  funext s
  show (match m s with
    | .ok a s' => R.ok a s'
    | .bad => R.bad) = m s
  cases m s <;> rfl
theorem bind_assoc' {γ : Type} (m : M α) (f : α → M β) (g : β → M γ) : (m >>= f >>= g) = m >>= fun a => f a >>= g := by
  funext s
  rw [bind_run, bind_run, bind_run]
  cases m s <;> rfl
theorem bad_bind (f : α → M β) : ((bad : M α) >>= f) = bad := rfl
theorem guard_true (m : M α) : guardB true m = m := rfl
theorem guard_of {b : Bool} (h : b = true) (m : M α) : guardB b m = m := by rw [h]; rfl
end

/-- where the drawing state stands -/
structure SA where
  s : Addr
  g : Addr
  c : Addr
  /-- lists that are lent, to be looked at -/
  L : Addr → Option (List V) := fun _ => none
def inS (S : SA) (b : Addr) : Prop := b = S.s ∨ b = S.g ∨ b = S.c ∨ S.L b ≠ none
def stK (S : SA) (d : Drw) : List (Key × V) := [(.inr "digits", .int d.dg), (.inr "great", .ref S.g), (.inr "cells", .ref S.c), (.inr "turn", .int d.tn)]
structure StR (S : SA) (H : Hp) (d : Drw) : Prop where
  s : H S.s = some (.dK (stK S d))
  g : H S.g = some (.lst (d.gr.map V.int))
  c : H S.c = some (.lst (d.ce.map V.int))
  gc : S.g ≠ S.c
  l : ∀ b vs, S.L b = some vs → H b = some (.lst vs) ∧ b ≠ S.s ∧ b ≠ S.g ∧ b ≠ S.c
theorem StR.tracked {S : SA} {H : Hp} {d : Drw} (h : StR S H d) {b : Addr} (hb : inS S b) : H b ≠ none := by
  rcases hb with e | e | e | e
  · rw [e, h.s]; exact fun z => nomatch z
  · rw [e, h.g]; exact fun z => nomatch z
  · rw [e, h.c]; exact fun z => nomatch z
  · obtain ⟨vs, ev⟩ := Option.ne_none_iff_exists'.mp e
    rw [(h.l b vs ev).1]; exact fun z => nomatch z
theorem inS.l {S : SA} {b : Addr} {vs : List V} (h : S.L b = some vs) : inS S b := .inr (.inr (.inr (by rw [h]; exact fun z => nomatch z)))
/-- what is not the state's was changed alone -/
theorem StR.alt {S : SA} {H : Hp} {d : Drw} {a : Addr} {o : HO} (h : StR S H d) (n : ¬ inS S a) : StR S (upd H a o) d where
  s := by rw [upd_ne fun z => n (.inl z.symm)]; exact h.s
  g := by rw [upd_ne fun z => n (.inr (.inl z.symm))]; exact h.g
  c := by rw [upd_ne fun z => n (.inr (.inr (.inl z.symm)))]; exact h.c
  gc := h.gc
  l := fun b vs e => ⟨by rw [upd_ne fun z : b = a => n (by rw [← z]; exact inS.l e)]; exact (h.l b vs e).1, (h.l b vs e).2⟩
theorem StR.off {S : SA} {H : Hp} {d : Drw} (h : StR S H d) {b : Addr} (hb : H b = none) : ¬ inS S b := fun z => h.tracked z hb

section
variable (K : PySem.W.Frag) (mg : Str → Option Value) (S : SA) (G : Hp)
mutual
inductive Rep : V → D → Prop
  | non : Rep .non .non
  | bl (b : Bool) : Rep (.bl b) (.bl b)
  | int (i : Int) : Rep (.int i) (.int i)
  | str (x : Str) : Rep (.str x) (.str x)
  | lst {a : Addr} {vs : List V} {ds : List D} : G a = some (.lst vs) → Reps vs ds → Rep (.ref a) (.lst ds)
  | ro {a : Addr} {vs : List V} {ds : List D} : SqL K G a vs → Reps vs ds → Rep (.ref a) (.ro ds)
  | tup {a : Addr} {vs : List V} {ds : List D} : SqT K G a vs → Reps vs ds → Rep (.ref a) (.tup ds)
  | dic {a : Addr} {o : Obj} {kvs : List (Key × V)} {ds : List (Key × D)} : G a = some (.frz o (.dK kvs)) → RepK kvs ds → Rep (.ref a) (.dic ds)
  | obj {a C dx : Addr} {c : Str} {vfs : List (Str × V)} {fs : List (Str × D)} : mg c = some (.ref C) → G a = some (.ins C dx vfs) → RepF vfs fs → Rep (.ref a) (.obj c fs)
  | st : Rep (.ref S.s) .st
  | ln {a : Addr} {vs : List V} {ds : List D} : S.L a = some vs → Reps vs ds → Rep (.ref a) (.ln ds)
  | plt {a : Addr} {o : Obj} {vs : List V} {ds : List D} : G a = some (.frz o (.tup vs)) → o.dict = none → Reps vs ds → Rep (.ref a) (.plt ds)
inductive Reps : List V → List D → Prop
  | nil : Reps [] []
  | cons {v : V} {vs : List V} {d : D} {ds : List D} : Rep v d → Reps vs ds → Reps (v :: vs) (d :: ds)
inductive RepK : List (Key × V) → List (Key × D) → Prop
  | nil : RepK [] []
  | cons {k : Key} {v : V} {vs : List (Key × V)} {d : D} {ds : List (Key × D)} : Rep v d → RepK vs ds → RepK ((k, v) :: vs) ((k, d) :: ds)
inductive RepF : List (Str × V) → List (Str × D) → Prop
  | nil : RepF [] []
  | cons {k : Str} {v : V} {vs : List (Str × V)} {d : D} {ds : List (Str × D)} : Rep v d → RepF vs ds → RepF ((k, v) :: vs) ((k, d) :: ds)
end
end
def Le (G G' : Hp) : Prop := ∀ b o, G b = some o → G' b = some o
theorem Le.refl (G : Hp) : Le G G := fun _ _ h => h
theorem Le.trans {G G1 G2 : Hp} (a : Le G G1) (b : Le G1 G2) : Le G G2 := fun x o h => b x o (a x o h)
theorem Le.new {G : Hp} {p : Addr} {o : HO} (h : G p = none) : Le G (upd G p o) := fun a u e => by
  rw [upd_ne (ne_of_none e h)]
  exact e
theorem Le.l {K : PySem.W.Frag} {G G' : Hp} {a : Addr} {xs : List V} (e : Le G G') (h : SqL K G a xs) : SqL K G' a xs := by
  rcases h with (h | ⟨o, h⟩) | h
  · exact .inl (.inl (e _ _ h))
  · exact .inl (.inr ⟨o, e _ _ h⟩)
  · exact .inr h
theorem Le.t {K : PySem.W.Frag} {G G' : Hp} {a : Addr} {xs : List V} (e : Le G G') (h : SqT K G a xs) : SqT K G' a xs := by
  rcases h with (h | ⟨o, h⟩) | h
  · exact .inl (.inl (e _ _ h))
  · exact .inl (.inr ⟨o, e _ _ h⟩)
  · exact .inr h
section
variable {K : PySem.W.Frag} {mg : Str → Option Value} {S : SA} {G G' : Hp}
mutual
theorem Rep.mono (e : Le G G') : ∀ {v : V} {d : D}, Rep K mg S G v d → Rep K mg S G' v d
  | _, _, .non => .non
  | _, _, .bl b => .bl b
  | _, _, .int i => .int i
  | _, _, .str x => .str x
  | _, _, .lst h r => .lst (e _ _ h) (Reps.mono e r)
  | _, _, .ro h r => .ro (e.l h) (Reps.mono e r)
  | _, _, .tup h r => .tup (e.t h) (Reps.mono e r)
  | _, _, .dic h r => .dic (e _ _ h) (RepK.mono e r)
  | _, _, .obj m h r => .obj m (e _ _ h) (RepF.mono e r)
  | _, _, .st => .st
  | _, _, .ln h r => .ln h (Reps.mono e r)
  | _, _, .plt h n r => .plt (e _ _ h) n (Reps.mono e r)
theorem Reps.mono (e : Le G G') : ∀ {vs : List V} {ds : List D}, Reps K mg S G vs ds → Reps K mg S G' vs ds
  | _, _, .nil => .nil
  | _, _, .cons a b => .cons (Rep.mono e a) (Reps.mono e b)
theorem RepK.mono (e : Le G G') : ∀ {vs : List (Key × V)} {ds : List (Key × D)}, RepK K mg S G vs ds → RepK K mg S G' vs ds
  | _, _, .nil => .nil
  | _, _, .cons a b => .cons (Rep.mono e a) (RepK.mono e b)
theorem RepF.mono (e : Le G G') : ∀ {vs : List (Str × V)} {ds : List (Str × D)}, RepF K mg S G vs ds → RepF K mg S G' vs ds
  | _, _, .nil => .nil
  | _, _, .cons a b => .cons (Rep.mono e a) (RepF.mono e b)
end
theorem Reps.length : ∀ {vs : List V} {ds : List D}, Reps K mg S G vs ds → vs.length = ds.length
  | _, _, .nil => rfl
  | _, _, .cons _ b => congrArg (· + 1) (Reps.length b)
theorem Reps.get : ∀ {vs : List V} {ds : List D} {i : Nat} {d : D}, Reps K mg S G vs ds → ds[i]? = some d → ∃ v, vs[i]? = some v ∧ Rep K mg S G v d
  | _, _, _, _, .nil, e => by simp at e
  | _, _, 0, _, .cons r _, e => by simp at e; subst e; exact ⟨_, rfl, r⟩
  | _, _, i + 1, d, .cons _ t, e => by
    obtain ⟨u, h1, h2⟩ := Reps.get (i := i) (d := d) t (by simpa using e)
    exact ⟨u, by simpa using h1, h2⟩
theorem Reps.getV : ∀ {vs : List V} {ds : List D} {i : Nat} {v : V}, Reps K mg S G vs ds → vs[i]? = some v → ∃ d, ds[i]? = some d ∧ Rep K mg S G v d
  | _, _, _, _, .nil, e => by simp at e
  | _, _, 0, _, .cons r _, e => by simp at e; subst e; exact ⟨_, rfl, r⟩
  | _, _, i + 1, d, .cons _ t, e => by
    obtain ⟨u, h1, h2⟩ := Reps.getV (i := i) (v := d) t (by simpa using e)
    exact ⟨u, by simpa using h1, h2⟩
theorem Reps.append : ∀ {vs ws : List V} {ds es : List D}, Reps K mg S G vs ds → Reps K mg S G ws es → Reps K mg S G (vs ++ ws) (ds ++ es)
  | _, _, _, _, .nil, s => s
  | _, _, _, _, .cons r t, s => .cons r (Reps.append t s)
theorem Reps.one {v : V} {d : D} (h : Rep K mg S G v d) : Reps K mg S G [v] [d] := .cons h .nil
theorem Reps.take : ∀ {vs : List V} {ds : List D} (n : Nat), Reps K mg S G vs ds → Reps K mg S G (vs.take n) (ds.take n)
  | _, _, 0, _ => .nil
  | _, _, _ + 1, .nil => .nil
  | _, _, n + 1, .cons r t => .cons r (Reps.take n t)
theorem Reps.drop : ∀ {vs : List V} {ds : List D} (n : Nat), Reps K mg S G vs ds → Reps K mg S G (vs.drop n) (ds.drop n)
  | _, _, 0, r => r
  | _, _, _ + 1, .nil => .nil
  | _, _, n + 1, .cons _ t => Reps.drop n t
theorem Reps.set {v : V} {d : D} (r : Rep K mg S G v d) : ∀ {vs : List V} {ds : List D} (i : Nat), Reps K mg S G vs ds → Reps K mg S G (vs.set i v) (ds.set i d)
  | _, _, _, .nil => .nil
  | _, _, 0, .cons _ t => .cons r t
  | _, _, i + 1, .cons q t => .cons q (Reps.set r i t)
theorem Reps.reverse : ∀ {vs : List V} {ds : List D}, Reps K mg S G vs ds → Reps K mg S G vs.reverse ds.reverse
  | _, _, .nil => .nil
  | _, _, .cons r t => by
    rw [List.reverse_cons, List.reverse_cons]
    exact (Reps.reverse t).append (.one r)
theorem RepK.append : ∀ {vs ws : List (Key × V)} {ds es : List (Key × D)}, RepK K mg S G vs ds → RepK K mg S G ws es → RepK K mg S G (vs ++ ws) (ds ++ es)
  | _, _, _, _, .nil, s => s
  | _, _, _, _, .cons r t, s => .cons r (RepK.append t s)
theorem RepK.length : ∀ {vs : List (Key × V)} {ds : List (Key × D)}, RepK K mg S G vs ds → vs.length = ds.length
  | _, _, .nil => rfl
  | _, _, .cons _ b => congrArg (· + 1) (RepK.length b)
end

/-- the frozen heap G lies in H, off the drawing state -/
def Sub (S : SA) (G H : Hp) : Prop := ∀ b o, G b = some o → H b = some o ∧ ¬ inS S b
theorem Sub.le {S : SA} {G H : Hp} (h : Sub S G H) : Le G H := fun b o e => (h b o e).1
theorem Sub.free {S : SA} {G H : Hp} (h : Sub S G H) {b : Addr} (e : H b = none) : G b = none := by
  cases q : G b with
  | none => rfl
  | some o => rw [(h b o q).1] at e; cases e
theorem Sub.offS {S : SA} {G H : Hp} (h : Sub S G H) {b : Addr} (e : inS S b) : G b = none := by
  cases q : G b with
  | none => rfl
  | some o => exact absurd e (h b o q).2
/-- later: all tracked but the drawing state stays; nothing that stood unfrozen was frozen -/
structure Aft (S : SA) (G H G' H' : Hp) (d : Drw) : Prop where
  hp : ∀ b o, H b = some o → ¬ inS S b → H' b = some o
  gm : Le G G'
  gn : ∀ b, H b ≠ none → G b = none → G' b = none
  st : StR S H' d
  sub : Sub S G' H'
section
variable {S : SA} {G H G1 H1 G2 H2 : Hp} {d d1 d2 : Drw}
theorem Aft.refl (st : StR S H d) (sub : Sub S G H) : Aft S G H G H d := ⟨fun _ _ h _ => h, Le.refl G, fun _ _ h => h, st, sub⟩
theorem Aft.trans (a : Aft S G H G1 H1 d1) (b : Aft S G1 H1 G2 H2 d2) : Aft S G H G2 H2 d2 where
  hp := fun x o h n => b.hp x o (a.hp x o h n) n
  gm := a.gm.trans b.gm
  gn := fun x hx gx => by
    by_cases n : inS S x
    · exact b.sub.offS n
    · cases q : H x with
      | none => exact absurd q hx
      | some o => exact b.gn x (by rw [a.hp x o q n]; exact fun z => nomatch z) (a.gn x hx gx)
  st := b.st
  sub := b.sub
theorem StR.new (st : StR S H d) {p : Addr} {o : HO} (h : H p = none) : StR S (upd H p o) d := st.alt (st.off h)
/-- a new object, frozen at once -/
theorem Aft.new (st : StR S H d) (sub : Sub S G H) {p : Addr} {o : HO} (h : H p = none) : Aft S G H (upd G p o) (upd H p o) d where
  hp := fun b u e _ => by rw [upd_ne (ne_of_none e h)]; exact e
  gm := Le.new (sub.free h)
  gn := fun b hb g => by
    have n : b ≠ p := fun z => hb (z ▸ h)
    rw [upd_ne n]; exact g
  st := st.new h
  sub := fun b u e => by
    by_cases n : b = p
    · subst n
      rw [upd_same] at e ⊢
      exact ⟨e, st.off h⟩
    · rw [upd_ne n] at e ⊢
      exact sub b u e
/-- a new object, not frozen -/
theorem Aft.newF (st : StR S H d) (sub : Sub S G H) {p : Addr} {o : HO} (h : H p = none) : Aft S G H G (upd H p o) d where
  hp := fun b u e _ => by rw [upd_ne (ne_of_none e h)]; exact e
  gm := Le.refl G
  gn := fun b _ g => g
  st := st.new h
  sub := fun b u e => ⟨by rw [upd_ne (ne_of_none (sub b u e).1 h)]; exact (sub b u e).1, (sub b u e).2⟩
end

abbrev Ev := List (Option D)
/-- a def's entry -/
structure Ct where
  S : SA
  G : Hp
  H : Hp
section
variable (K : PySem.W.Frag) (mg : Str → Option Value)
/-- an object of one's own, not frozen -/
def OwnO (S : SA) (G H : Hp) (a : Addr) : D → Prop
  | .lst ds => ∃ vs, H a = some (.lst vs) ∧ Reps K mg S G vs ds
  | .dic ds => ∃ kvs, H a = some (.dK kvs) ∧ RepK K mg S G kvs ds
  | _ => False
structure OwnA (C : Ct) (G H : Hp) (a : Addr) (d : D) : Prop where
  g : G a = none
  n : ¬ inS C.S a
  h : C.H a = none
  o : OwnO K mg C.S G H a d
/-- what a slot of one's own holds: an object of one's own, or None -/
inductive OwnV (C : Ct) (G H : Hp) : V → D → Prop
  | ref {a : Addr} {x : D} (o : OwnA K mg C G H a x) : OwnV C G H (.ref a) x
  | non : OwnV C G H .non .non
structure IM (C : Ct) (os : List Nat) (env : Ev) (σ : St) (H G : Hp) (d : Drw) : Prop where
  aft : Aft C.S C.G C.H G H d
  len : σ.length = env.length
  sh : ∀ i x, i ∉ os → env[i]? = some (some x) → ∃ v, σ[i]? = some (some v) ∧ Rep K mg C.S G v x
  ow : ∀ i x, i ∈ os → env[i]? = some (some x) → ∃ v, σ[i]? = some (some v) ∧ OwnV K mg C G H v x
  dis : ∀ i j x y a, i ∈ os → j ∈ os → env[i]? = some (some x) → env[j]? = some (some y) → σ[i]? = some (some (.ref a)) → σ[j]? = some (some (.ref a)) → i = j
/-- what may be looked at: frozen, or one's own -/
inductive RepT (S : SA) (G H : Hp) : V → D → Prop
  | of {v : V} {d : D} : Rep K mg S G v d → RepT S G H v d
  | lst {a : Addr} {vs : List V} {ds : List D} : ¬ inS S a → H a = some (.lst vs) → Reps K mg S G vs ds → RepT S G H (.ref a) (.lst ds)
  | dic {a : Addr} {kvs : List (Key × V)} {ds : List (Key × D)} : ¬ inS S a → H a = some (.dK kvs) → RepK K mg S G kvs ds → RepT S G H (.ref a) (.dic ds)
/-- a new one -/
inductive RepN (S : SA) (G0 H0 G H : Hp) : V → D → Prop
  | non : RepN S G0 H0 G H .non .non
  | lst {a : Addr} {vs : List V} {ds : List D} : H0 a = none → G a = none → H a = some (.lst vs) → Reps K mg S G vs ds → RepN S G0 H0 G H (.ref a) (.lst ds)
  | dic {a : Addr} {kvs : List (Key × V)} {ds : List (Key × D)} : H0 a = none → G a = none → H a = some (.dK kvs) → RepK K mg S G kvs ds → RepN S G0 H0 G H (.ref a) (.dic ds)
def SimE (C : Ct) (os : List Nat) (te : TE) (m : Ev → M D) : Prop := ∀ G σ H env d Q, IM K mg C os env σ H G d →
  Wp (m env d) (fun x d' => ∀ v H' G', Aft C.S G H G' H' d' → Rep K mg C.S G' v x → Q v H') → te σ H Q
def SimB (C : Ct) (os : List Nat) (te : TE) (m : Ev → M D) : Prop := ∀ G σ H env d Q, IM K mg C os env σ H G d →
  Wp (m env d) (fun x d' => ∀ v H' G', Aft C.S G H G' H' d' → RepT K mg C.S G' H' v x → Q v H') → te σ H Q
def SimF (C : Ct) (os : List Nat) (te : TE) (m : Ev → M D) : Prop := ∀ G σ H env d Q, IM K mg C os env σ H G d →
  Wp (m env d) (fun x d' => ∀ v H' G', Aft C.S G H G' H' d' → RepN K mg C.S G H G' H' v x → Q v H') → te σ H Q
def SimT (C : Ct) (os : List Nat) (tt : TT) (m : Ev → M Bool) : Prop := ∀ G σ H env d Q, IM K mg C os env σ H G d →
  Wp (m env d) (fun b d' => ∀ H' G', Aft C.S G H G' H' d' → Q b H') → tt σ H Q
def SimA (C : Ct) (os : List Nat) (ta : TA) (m : Ev → M (List D)) : Prop := ∀ G σ H env d Q, IM K mg C os env σ H G d →
  Wp (m env d) (fun xs d' => ∀ vs H' G', Aft C.S G H G' H' d' → Reps K mg C.S G' vs xs → Q vs H') → ta σ H Q
inductive Ctl where
  | nx (env : Ev)
  | ret (x : D)
  | brk (env : Ev)
  | cont (env : Ev)
def RetR (C : Ct) (fr : Bool) (G H : Hp) (v : V) (x : D) : Prop := match fr with
  | true => RepN K mg C.S C.G C.H G H v x
  | false => Rep K mg C.S G v x
def CPost (C : Ct) (fr : Bool) (os' ol : List Nat) (G : Hp) (D : Ends) (c : Ctl) (d' : Drw) : Prop := match c with
  | .nx e => ∀ σ' H' G', Le G G' → IM K mg C os' e σ' H' G' d' → D.nx σ' H'
  | .ret x => ∀ v H' G', Aft C.S C.G C.H G' H' d' → RetR K mg C fr G' H' v x → D.rt v H'
  | .brk e => ∀ σ' H' G', Le G G' → IM K mg C ol e σ' H' G' d' → D.bk σ' H'
  | .cont e => ∀ σ' H' G', Le G G' → IM K mg C ol e σ' H' G' d' → D.ct σ' H'
theorem CPost.le {K : PySem.W.Frag} {mg : Str → Option Value} {C : Ct} {fr : Bool} {os' ol : List Nat} {G G1 : Hp} {D : Ends} {c : Ctl} {d' : Drw} (h : CPost K mg C fr os' ol G D c d') (l : Le G G1) : CPost K mg C fr os' ol G1 D c d' := by
  cases c with
  | nx e => exact fun σ2 H2 G2 l2 I2 => h σ2 H2 G2 (l.trans l2) I2
  | ret x => exact h
  | brk e => exact fun σ2 H2 G2 l2 I2 => h σ2 H2 G2 (l.trans l2) I2
  | cont e => exact fun σ2 H2 G2 l2 I2 => h σ2 H2 G2 (l.trans l2) I2
/-- a statement: ahead of it the slots os hold one's own objects, behind it os', at a loop's ends ol -/
def SimS (C : Ct) (fr : Bool) (os os' ol : List Nat) (ts : TS) (m : Ev → M Ctl) : Prop := ∀ G σ H env d (D : Ends), IM K mg C os env σ H G d →
  Wp (m env d) (CPost K mg C fr os' ol G D) → ts D σ H
end
section
variable {K : PySem.W.Frag} {mg : Str → Option Value} {C : Ct} {os : List Nat} {env : Ev} {σ : St} {G H G' H' G1 H1 : Hp} {d d' : Drw} {v : V} {x : D}
theorem OwnO.aft {S : SA} {a : Addr} (h : OwnO K mg S G H a x) (n : ¬ inS S a) (A : Aft S G H G' H' d') : OwnO K mg S G' H' a x := by
  cases x with
  | lst ds => obtain ⟨vs, h1, h2⟩ := h; exact ⟨vs, A.hp a _ h1 n, h2.mono A.gm⟩
  | dic ds => obtain ⟨vs, h1, h2⟩ := h; exact ⟨vs, A.hp a _ h1 n, h2.mono A.gm⟩
  | _ => exact h
theorem OwnO.at {S : SA} {a : Addr} (h : OwnO K mg S G H a x) : H a ≠ none := by
  cases x with
  | lst ds => obtain ⟨vs, h1, h2⟩ := h; rw [h1]; exact fun z => nomatch z
  | dic ds => obtain ⟨vs, h1, h2⟩ := h; rw [h1]; exact fun z => nomatch z
  | _ => exact h.elim
theorem OwnV.later (h : OwnV K mg C G H v x) (A : Aft C.S G H G' H' d') : OwnV K mg C G' H' v x := by
  cases h with
  | ref o => exact .ref ⟨A.gn _ o.o.at o.g, o.n, o.h, o.o.aft o.n A⟩
  | non => exact .non
theorem IM.owA (I : IM K mg C os env σ H G d) {i : Nat} (hi : i ∈ os) (e : env[i]? = some (some x)) (hx : x ≠ .non) : ∃ a, σ[i]? = some (some (.ref a)) ∧ OwnA K mg C G H a x := by
  obtain ⟨v, h1, h2⟩ := I.ow i x hi e
  cases h2 with
  | ref o => exact ⟨_, h1, o⟩
  | non => exact absurd rfl hx
theorem IM.later (I : IM K mg C os env σ H G d) (A : Aft C.S G H G' H' d') : IM K mg C os env σ H' G' d' where
  aft := I.aft.trans A
  len := I.len
  sh := fun i y hi e => by
    obtain ⟨v, h1, h2⟩ := I.sh i y hi e
    exact ⟨v, h1, h2.mono A.gm⟩
  ow := fun i y hi e => by
    obtain ⟨a, h1, h2⟩ := I.ow i y hi e
    exact ⟨a, h1, h2.later A⟩
  dis := I.dis
theorem IM.st (I : IM K mg C os env σ H G d) : StR C.S H d := I.aft.st
theorem IM.sub (I : IM K mg C os env σ H G d) : Sub C.S G H := I.aft.sub
theorem RepT.later {S : SA} (h : RepT K mg S G H v x) (A : Aft S G H G' H' d') : RepT K mg S G' H' v x := by
  cases h with
  | of r => exact .of (r.mono A.gm)
  | lst n h r => exact .lst n (A.hp _ _ h n) (r.mono A.gm)
  | dic n h r => exact .dic n (A.hp _ _ h n) (r.mono A.gm)
theorem RepN.toT {S : SA} {G0 H0 : Hp} {d0 : Drw} (h : RepN K mg S G0 H0 G H v x) (st : StR S H0 d0) : RepT K mg S G H v x := by
  cases h with
  | non => exact .of .non
  | lst n g h r => exact .lst (st.off n) h r
  | dic n g h r => exact .dic (st.off n) h r
/-- a new one frozen -/
theorem Aft.freeze {S : SA} {a : Addr} {o : HO} (A : Aft S G H G' H' d') (n : ¬ inS S a) (g : G' a = none) (h0 : H a = none) (h : H' a = some o) : Aft S G H (upd G' a o) H' d' where
  hp := A.hp
  gm := A.gm.trans (Le.new g)
  gn := fun b hb gb => by
    have e : b ≠ a := fun z => hb (z ▸ h0)
    rw [upd_ne e]
    exact A.gn b hb gb
  st := A.st
  sub := fun b u e => by
    by_cases z : b = a
    · subst z
      rw [upd_same] at e
      cases e
      exact ⟨h, n⟩
    · rw [upd_ne z] at e
      exact A.sub b u e
theorem SimE.b {te : TE} {m : Ev → M D} (h : SimE K mg C os te m) : SimB K mg C os te m := fun G σ H env d Q I w =>
  h G σ H env d Q I (w.imp fun x d' k v H' G' A r => k v H' G' A (.of r))
theorem SimF.b {te : TE} {m : Ev → M D} (h : SimF K mg C os te m) : SimB K mg C os te m := fun G σ H env d Q I w =>
  h G σ H env d Q I (w.imp fun x d' k v H' G' A r => k v H' G' A (r.toT I.st))
/-- a new object locked for ever -/
theorem Aft.frzD {S : SA} {a : Addr} {o o' : HO} (A : Aft S G H G' H' d') (n : ¬ inS S a) (g : G' a = none) (h0 : H a = none) (h : H' a = some o') : Aft S G H (upd G' a o) (upd H' a o) d' where
  hp := fun b u e m => by
    have z : b ≠ a := fun z => by rw [z, h0] at e; cases e
    rw [upd_ne z]; exact A.hp b u e m
  gm := A.gm.trans (Le.new g)
  gn := fun b hb gb => by
    have e : b ≠ a := fun z => hb (z ▸ h0)
    rw [upd_ne e]
    exact A.gn b hb gb
  st := A.st.alt n
  sub := fun b u e => by
    by_cases z : b = a
    · subst z
      rw [upd_same] at e ⊢
      exact ⟨e, n⟩
    · rw [upd_ne z] at e ⊢
      exact A.sub b u e
def rFrz (v : V) (H : Hp) (Q : VK) : Prop := Q v H ∨ ∃ a kvs, v = .ref a ∧ H a = some (.dK kvs) ∧ ∀ od, Q v (upd H a (.frz od (.dK kvs)))
def tFrzE (t : TE) : TE := fun σ H Q => t σ H fun v H1 => rFrz v H1 Q
def tFrzS (t : TS) : TS := fun D σ H => t D σ H ∨ ∃ a kvs, H a = some (.dK kvs) ∧ ∀ od, t D σ (upd H a (.frz od (.dK kvs)))
theorem pe_frz {X : Cx} {e : Expr} {t : TE} (h : PE X e t) : PE X e (tFrzE t) := by
  refine ⟨fun pins s σ H Q I hw => ?_⟩
  refine thn (h.run pins s σ H _ I hw) fun v s1 ⟨x, H1, I1, r, q⟩ => ?_
  rcases q with q | ⟨a, kvs, ex, ha, q⟩
  · exact ⟨x, H1, I1, r, q⟩
  · obtain ⟨od, I2⟩ := I1.lock ha (show Mut (some (.dK kvs)) from True.intro)
    exact ⟨x, _, I2, r, q od⟩
theorem pss_frz {X : Cx} {st : List Stmt} {t : TS} (h : PSs X st t) : PSs X st (tFrzS t) := by
  refine ⟨fun pins s σ H D I hw => ?_⟩
  rcases hw with hw | ⟨a, kvs, ha, hw⟩
  · exact h.run pins s σ H D I hw
  · obtain ⟨od, I2⟩ := I.lock ha (show Mut (some (.dK kvs)) from True.intro)
    exact h.run pins s σ _ D I2 (hw od)
theorem SimF.e {te : TE} {m : Ev → M D} (h : SimF K mg C os te m) : SimE K mg C os (tFrzE te) m := fun G σ H env d Q I w =>
  h G σ H env d _ I (w.imp fun x d' k v H' G' A r => by
    cases r with
    | non => exact .inl (k _ _ _ A .non)
    | lst n g h r =>
      have A' := A.freeze (I.st.off n) g n h
      exact .inl (k _ _ _ A' (.lst upd_same (r.mono (Le.new g))))
    | dic n g h r => exact .inr ⟨_, _, rfl, h, fun od => k _ _ _ (A.frzD (I.st.off n) g n h) (.dic upd_same (r.mono (Le.new g)))⟩)
theorem SimF.eL {te : TE} {m : Ev → M D} (h : SimF K mg C os te m) (hl : ∀ env d x d', m env d = .ok x d' → ∃ ds, x = .lst ds) : SimE K mg C os te m := fun G σ H env d Q I w => by
  refine h G σ H env d _ I ?_
  cases q : m env d with
  | bad => rw [q] at w; exact w.elim
  | ok x d' =>
    rw [q] at w
    obtain ⟨ds, rfl⟩ := hl env d x d' q
    intro v H' G' A r
    cases r with
    | lst n g h r => exact w _ _ _ (A.freeze (I.st.off n) g n h) (.lst upd_same (r.mono (Le.new g)))
end
end Mir
end
section
set_option Elab.async false
set_option linter.all false
set_option maxRecDepth 100000
set_option maxHeartbeats 2000000
/-! Mir, part B: what expressions, tests, arguments, statements mirror. -/
namespace Mir
open PySem PySem.Spec PyProof.Rows L2

structure PM (X : Cx) (os : List Nat) (e : Expr) (te : TE) (m : Ev → M D) : Prop where
  p : PE X e te
  s : ∀ C, SimE X.K X.mg C os te m
structure PMB (X : Cx) (os : List Nat) (e : Expr) (te : TE) (m : Ev → M D) : Prop where
  p : PE X e te
  s : ∀ C, SimB X.K X.mg C os te m
structure PMF (X : Cx) (os : List Nat) (e : Expr) (te : TE) (m : Ev → M D) : Prop where
  p : PE X e te
  s : ∀ C, SimF X.K X.mg C os te m
structure PMT (X : Cx) (os : List Nat) (e : Expr) (tt : TT) (m : Ev → M Bool) : Prop where
  p : PT X e tt
  s : ∀ C, SimT X.K X.mg C os tt m
structure PMW (X : Cx) (os : List Nat) (e : Expr) (tt : TT) (m : Ev → M Bool) : Prop where
  p : PW X e tt
  s : ∀ C, SimT X.K X.mg C os tt m
structure PMA (X : Cx) (os : List Nat) (es : List Expr) (ta : TA) (m : Ev → M (List D)) : Prop where
  p : PA X es ta
  s : ∀ C, SimA X.K X.mg C os ta m
def PMS (X : Cx) (fr : Bool) (os os' ol : List Nat) (st : Stmt) (m : Ev → M Ctl) : Prop := ∃ ts, PS X st ts ∧ ∀ C, SimS X.K X.mg C fr os os' ol ts m
def PMSs (X : Cx) (fr : Bool) (os os' ol : List Nat) (st : List Stmt) (m : Ev → M Ctl) : Prop := ∃ ts, PSs X st ts ∧ ∀ C, SimS X.K X.mg C fr os os' ol ts m

section
variable {X : Cx} {os : List Nat} {e a b c : Expr} {te ta tb : TE} {m ma mb : Ev → M D} {pos p' : Pos}
theorem PM.toB (h : PM X os e te m) : PMB X os e te m := ⟨h.p, fun C => (h.s C).b⟩
theorem PMF.toB (h : PMF X os e te m) : PMB X os e te m := ⟨h.p, fun C => (h.s C).b⟩
theorem PMF.toE (h : PMF X os e te m) : PM X os e (tFrzE te) m := ⟨pe_frz h.p, fun C => (h.s C).e⟩

/-! ### names, constants -/
def eVar (i : Nat) : Ev → M D := fun env => match env[i]? with
  | some (some d) => pure d
  | _ => bad
def eC (d : D) : Ev → M D := fun _ => pure d
theorem eVar_some {i : Nat} {env : Ev} {d : Drw} {P : D → Drw → Prop} (h : Wp (eVar i env d) P) : ∃ x, env[i]? = some (some x) ∧ P x d := by
  cases hx : env[i]? with
  | none =>
    simp only [eVar, hx] at h
    exact h.elim
  | some q =>
    cases q with
    | none =>
      simp only [eVar, hx] at h
      exact h.elim
    | some x =>
      simp only [eVar, hx] at h
      exact ⟨x, rfl, h⟩
theorem pm_var (i : Nat) {x : Str} {pos : Pos} (ho : i ∉ os := by decide) (hN : X.N[i]? = some x := by rfl) (hv : Vis X.env.scope x := by first | exact Or.inl rfl | exact Or.inr (Or.inl rfl) | exact Or.inr (Or.inr rfl)) (hd : (x == ("__debug__" : Str)) = false := by decide)
    (hcd : (x == ("__classdict__" : Str)) = false := by decide) : PM X os (.Name x pos) (tVar i) (eVar i) := by
  refine ⟨pe_var hN hv hd hcd, fun C G σ H env d Q I w => ?_⟩
  obtain ⟨y, e1, k⟩ := eVar_some w
  obtain ⟨v, e2, r⟩ := I.sh i y ho e1
  exact ⟨v, e2, k v H G (Aft.refl I.st I.sub) r⟩
theorem pmb_var (i : Nat) {x : Str} {pos : Pos} (hN : X.N[i]? = some x := by rfl) (hv : Vis X.env.scope x := by first | exact Or.inl rfl | exact Or.inr (Or.inl rfl) | exact Or.inr (Or.inr rfl)) (hd : (x == ("__debug__" : Str)) = false := by decide)
    (hcd : (x == ("__classdict__" : Str)) = false := by decide) : PMB X os (.Name x pos) (tVar i) (eVar i) := by
  refine ⟨pe_var hN hv hd hcd, fun C G σ H env d Q I w => ?_⟩
  obtain ⟨y, e1, k⟩ := eVar_some w
  by_cases ho : i ∈ os
  · obtain ⟨v, e2, ov⟩ := I.ow i y ho e1
    refine ⟨_, e2, k _ H G (Aft.refl I.st I.sub) ?_⟩
    cases ov with
    | non => exact .of .non
    | ref oa =>
      have oo := oa.o
      cases y with
      | lst ds => obtain ⟨vs, h1, h2⟩ := oo; exact .lst oa.n h1 h2
      | dic ds => obtain ⟨vs, h1, h2⟩ := oo; exact .dic oa.n h1 h2
      | _ => exact oo.elim
  · obtain ⟨v, e2, r⟩ := I.sh i y ho e1
    exact ⟨v, e2, k v H G (Aft.refl I.st I.sub) (.of r)⟩
theorem pm_tC {v : V} {d : D} (h : PE X e (tC v)) (hr : ∀ S G, Rep X.K X.mg S G v d) : PM X os e (tC v) (eC d) :=
  ⟨h, fun C G σ H env dw Q I w => w v H G (Aft.refl I.st I.sub) (hr _ _)⟩
theorem pm_int {i : Int} {j pos} : PM X os (.Constant (.int i) j pos) (tC (.int i)) (eC (.int i)) := pm_tC pe_int fun _ _ => .int i
theorem pm_bl {b j pos} : PM X os (.Constant (.bool b) j pos) (tC (.bl b)) (eC (.bl b)) := pm_tC pe_bl fun _ _ => .bl b
theorem pm_non {j pos} : PM X os (.Constant .none j pos) (tC .non) (eC .non) := pm_tC pe_non fun _ _ => .non
theorem pm_str {x j pos} : PM X os (.Constant (.str x) j pos) (tC (.str x)) (eC (.str x)) := pm_tC pe_str fun _ _ => .str x
theorem pm_glob {x : Str} {v : V} {u : Value} {d : D} (hg : Gl X x) (hm : X.mg x = some u) (r : RelV v u) (hr : ∀ S G, Rep X.K X.mg S G v d) (hd : (x == ("__debug__" : Str)) = false := by decide) : PM X os (.Name x pos) (tC v) (eC d) :=
  pm_tC (pe_glob hg hm r hd) hr

/-! ### operators -/
def SimR (K : PySem.W.Frag) (mg : Str → Option Value) (r : R2) (g : D → D → M D) : Prop := ∀ S G H d x y dx dy Q, StR S H d → Sub S G H → RepT K mg S G H x dx → RepT K mg S G H y dy →
  Wp (g dx dy d) (fun z d' => ∀ v H' G', Aft S G H G' H' d' → Rep K mg S G' v z → Q v H') → r x y H Q
/-- .. whose answer is a new object -/
def SimRF (K : PySem.W.Frag) (mg : Str → Option Value) (r : R2) (g : D → D → M D) : Prop := ∀ S G H d x y dx dy Q, StR S H d → Sub S G H → RepT K mg S G H x dx → RepT K mg S G H y dy →
  Wp (g dx dy d) (fun z d' => ∀ v H' G', Aft S G H G' H' d' → RepN K mg S G H G' H' v z → Q v H') → r x y H Q
def eBin (g : D → D → M D) (ma mb : Ev → M D) : Ev → M D := fun env => ma env >>= fun x => mb env >>= fun y => g x y
theorem Aft.free {S : SA} {G H G' H' : Hp} {d : Drw} (A : Aft S G H G' H' d) {b : Addr} (h : H' b = none) : H b = none := by
  cases q : H b with
  | none => rfl
  | some o =>
    by_cases n : inS S b
    · exact absurd h (A.st.tracked n)
    · rw [A.hp b o q n] at h; cases h
theorem RepN.pull {K : PySem.W.Frag} {mg : Str → Option Value} {S : SA} {G0 H0 G H G' H' : Hp} {d : Drw} {v : V} {x : D} (A : Aft S G0 H0 G H d) (h : RepN K mg S G H G' H' v x) : RepN K mg S G0 H0 G' H' v x := by
  cases h with
  | non => exact .non
  | lst n g h r => exact .lst (A.free n) g h r
  | dic n g h r => exact .dic (A.free n) g h r
theorem simE_op {K : PySem.W.Frag} {mg : Str → Option Value} {C : Ct} {ta tb : TE} {r : R2} {g : D → D → M D} (sa : SimB K mg C os ta ma) (sb : SimB K mg C os tb mb) (hr : SimR K mg r g) : SimE K mg C os (tOp r ta tb) (eBin g ma mb) := by
  intro G σ H env d Q I w
  unfold eBin at w
  rw [Wp_bind] at w
  refine sa G σ H env d _ I (w.imp fun x d1 w1 v1 H1 G1 A1 r1 => ?_)
  rw [Wp_bind] at w1
  refine sb G1 σ H1 env d1 _ (I.later A1) (w1.imp fun y d2 w2 v2 H2 G2 A2 r2 => ?_)
  exact hr C.S G2 H2 d2 v1 v2 x y Q A2.st A2.sub (r1.later A2) r2 (w2.imp fun z d3 k v H' G' A3 r3 => k v H' G' (A1.trans (A2.trans A3)) r3)
theorem simF_op {K : PySem.W.Frag} {mg : Str → Option Value} {C : Ct} {ta tb : TE} {r : R2} {g : D → D → M D} (sa : SimB K mg C os ta ma) (sb : SimB K mg C os tb mb) (hr : SimRF K mg r g) : SimF K mg C os (tOp r ta tb) (eBin g ma mb) := by
  intro G σ H env d Q I w
  unfold eBin at w
  rw [Wp_bind] at w
  refine sa G σ H env d _ I (w.imp fun x d1 w1 v1 H1 G1 A1 r1 => ?_)
  rw [Wp_bind] at w1
  refine sb G1 σ H1 env d1 _ (I.later A1) (w1.imp fun y d2 w2 v2 H2 G2 A2 r2 => ?_)
  exact hr C.S G2 H2 d2 v1 v2 x y Q A2.st A2.sub (r1.later A2) r2 (w2.imp fun z d3 k v H' G' A3 r3 => k v H' G' (A1.trans (A2.trans A3)) (RepN.pull (A1.trans A2) r3))
theorem pm_bin {op : Operator} {r : R2} {g : D → D → M D} (ho : OpR X (binaryOp op) r) (hr : SimR X.K X.mg r g) (ha : PMB X os a ta ma) (hb : PMB X os b tb mb) : PM X os (.BinOp a op b pos) (tOp r ta tb) (eBin g ma mb) :=
  ⟨pe_op ho ha.p hb.p, fun C => simE_op (ha.s C) (hb.s C) hr⟩
theorem pmf_bin {op : Operator} {r : R2} {g : D → D → M D} (ho : OpR X (binaryOp op) r) (hr : SimRF X.K X.mg r g) (ha : PMB X os a ta ma) (hb : PMB X os b tb mb) : PMF X os (.BinOp a op b pos) (tOp r ta tb) (eBin g ma mb) :=
  ⟨pe_op ho ha.p hb.p, fun C => simF_op (ha.s C) (hb.s C) hr⟩
def tB' (m : Ev → M D) : Ev → M Bool := fun env => m env >>= fun x => match x with
  | .bl b => pure b
  | _ => bad
theorem simT_val {K : PySem.W.Frag} {mg : Str → Option Value} {C : Ct} (se : SimE K mg C os te m) : SimT K mg C os (tB te) (tB' m) := fun G σ H env d Q I w => by
  unfold tB' at w
  rw [Wp_bind] at w
  refine se G σ H env d _ I (w.imp fun x d1 w1 v1 H1 G1 A1 r1 => ?_)
  split at w1
  · cases r1
    exact ⟨_, rfl, w1 _ _ A1⟩
  · exact w1.elim
/-- a comparison: as a value, as a test -/
structure PMC (X : Cx) (os : List Nat) (e : Expr) (te : TE) (m : Ev → M D) : Prop where
  ev : PM X os e te m
  ts : PMT X os e (tB te) (tB' m)
theorem pmc_of {op : CmpOp} (pc : PC X op a b te) (hm : behindInMarks op b = false) (s : ∀ C, SimE X.K X.mg C os te m) : PMC X os (.Compare a [op] [b] pos) te m :=
  ⟨⟨pe_cmp pc hm, s⟩, ⟨pt_cmp pc hm, fun C => simT_val (s C)⟩⟩
theorem pc_op {op : CmpOp} {r : R2} (ho : OpR X (compareOp op) r) (ha : PE X a ta) (hb : PE X b tb) : PC X op a b (tOp r ta tb) :=
  ⟨fun pins s σ H Q I h => thn (ha.run pins s σ H _ I h) fun v s1 ⟨x, H1, I1, r1, q1⟩ => thn (hb.run pins s1 σ H1 _ I1 q1) fun u s2 ⟨y, H2, I2, r2, q2⟩ => ho pins s2 σ H2 x y v u Q I2 r1 r2 q2⟩
theorem pm_cmp {op : CmpOp} {r : R2} {g : D → D → M D} (ho : OpR X (compareOp op) r) (hr : SimR X.K X.mg r g) (ha : PMB X os a ta ma) (hb : PMB X os b tb mb) (hm : behindInMarks op b = false) : PMC X os (.Compare a [op] [b] pos) (tOp r ta tb) (eBin g ma mb) :=
  pmc_of (pc_op ho ha.p hb.p) hm fun C => simE_op (ha.s C) (hb.s C) hr
theorem opr_or {f : Value → Value → Sem Value} {r1 r2 : R2} (h1 : OpR X f r1) (h2 : OpR X f r2) : OpR X f (fun x y H Q => r1 x y H Q ∨ r2 x y H Q) := fun pins s σ H x y v u Q I rx ry h =>
  h.elim (h1 pins s σ H x y v u Q I rx ry) (h2 pins s σ H x y v u Q I rx ry)
/-- ints in, a plain value out -/
def intOp (C : Int → Int → Bool) (g : Int → Int → D) : D → D → M D
  | .int i, .int j => guardB (C i j) (pure (g i j))
  | _, _ => bad
theorem intOp_some {C : Int → Int → Bool} {g : Int → Int → D} {x y : D} {d : Drw} {P : D → Drw → Prop} (w : Wp (intOp C g x y d) P) : ∃ i j, x = .int i ∧ y = .int j ∧ C i j = true ∧ P (g i j) d := by
  unfold intOp at w
  split at w
  · rename_i i j
    rw [Wp_guard] at w
    exact ⟨i, j, rfl, rfl, w.1, w.2⟩
  · exact w.elim
theorem RepT.int {K : PySem.W.Frag} {mg : Str → Option Value} {S : SA} {G H : Hp} {x : V} {i : Int} (h : RepT K mg S G H x (.int i)) : x = .int i := by
  cases h with
  | of r => cases r; rfl
theorem RepT.str {K : PySem.W.Frag} {mg : Str → Option Value} {S : SA} {G H : Hp} {x : V} {i : Str} (h : RepT K mg S G H x (.str i)) : x = .str i := by
  cases h with
  | of r => cases r; rfl
theorem RepT.bl {K : PySem.W.Frag} {mg : Str → Option Value} {S : SA} {G H : Hp} {x : V} {i : Bool} (h : RepT K mg S G H x (.bl i)) : x = .bl i := by
  cases h with
  | of r => cases r; rfl
theorem RepT.lst' {K : PySem.W.Frag} {mg : Str → Option Value} {S : SA} {G H : Hp} {x : V} {ds : List D} (h : RepT K mg S G H x (.lst ds)) (sb : Sub S G H) : ∃ a vs, x = .ref a ∧ H a = some (.lst vs) ∧ Reps K mg S G vs ds ∧ ¬ inS S a := by
  cases h with
  | of r =>
    cases r with
    | lst h r => exact ⟨_, _, rfl, sb.le _ _ h, r, (sb _ _ h).2⟩
  | lst n h r => exact ⟨_, _, rfl, h, r, n⟩
theorem RepT.dic' {K : PySem.W.Frag} {mg : Str → Option Value} {S : SA} {G H : Hp} {x : V} {ds : List (Key × D)} (h : RepT K mg S G H x (.dic ds)) (sb : Sub S G H) : ∃ a vs, x = .ref a ∧ Rd H a (.dK vs) ∧ RepK K mg S G vs ds ∧ ¬ inS S a := by
  cases h with
  | of r =>
    cases r with
    | dic h r => exact ⟨_, _, rfl, .inr ⟨_, sb.le _ _ h⟩, r, (sb _ _ h).2⟩
  | dic n h r => exact ⟨_, _, rfl, .inl h, r, n⟩
theorem RepT.tup' {K : PySem.W.Frag} {mg : Str → Option Value} {S : SA} {G H : Hp} {x : V} {ds : List D} (h : RepT K mg S G H x (.tup ds)) (sb : Sub S G H) : ∃ a vs, x = .ref a ∧ SqT K G a vs ∧ Reps K mg S G vs ds := by
  cases h with
  | of r =>
    cases r with
    | tup h r => exact ⟨_, _, rfl, h, r⟩
theorem simR_I0 {K : PySem.W.Frag} {mg : Str → Option Value} {f : Int → Int → V} {g : Int → Int → D} (h : ∀ i j S G, Rep K mg S G (f i j) (g i j)) : SimR K mg (rI0 f) (intOp (fun _ _ => true) g) := by
  intro S G H d x y dx dy Q st sb rx ry w
  obtain ⟨i, j, rfl, rfl, _, k⟩ := intOp_some w
  exact ⟨i, j, rx.int, ry.int, k _ _ _ (Aft.refl st sb) (h i j _ _)⟩
theorem simR_I {K : PySem.W.Frag} {mg : Str → Option Value} {Cc : Int → Int → Prop} {Cb : Int → Int → Bool} {f : Int → Int → V} {g : Int → Int → D} (hc : ∀ i j, Cb i j = true → Cc i j) (h : ∀ i j S G, Rep K mg S G (f i j) (g i j)) : SimR K mg (rI Cc f) (intOp Cb g) := by
  intro S G H d x y dx dy Q st sb rx ry w
  obtain ⟨i, j, rfl, rfl, c, k⟩ := intOp_some w
  exact ⟨i, j, rx.int, ry.int, hc i j c, k _ _ _ (Aft.refl st sb) (h i j _ _)⟩
abbrev dSub := intOp (fun _ _ => true) fun i j => .int (i - j)
abbrev dLt := intOp (fun _ _ => true) fun i j => .bl (decide (i < j))
abbrev dLe := intOp (fun _ _ => true) fun i j => .bl (decide (i ≤ j))
abbrev dGt := intOp (fun _ _ => true) fun i j => .bl (decide (j < i))
abbrev dGe := intOp (fun _ _ => true) fun i j => .bl (decide (j ≤ i))
def mulOk (i j : Int) : Bool := decide (-(2 ^ 64) < i ∧ i < 2 ^ 64) || decide (-(2 ^ 64) < j ∧ j < 2 ^ 64)
abbrev dMul := intOp mulOk fun i j => .int (i * j)
abbrev dMod := intOp (fun _ j => decide (0 < j)) fun i j => .int (i % j)
abbrev dDiv := intOp (fun _ j => decide (j ≠ 0 ∧ j.natAbs < 1073741824)) fun i j => .int (i.fdiv j)
abbrev dPow := intOp (fun i j => decide (0 ≤ j ∧ j ≤ 1000000 ∧ i.natAbs < 2 ^ 64)) fun i j => .int (i ^ j.toNat)
theorem pm_sub (ha : PMB X os a ta ma) (hb : PMB X os b tb mb) : PM X os (.BinOp a .Sub b pos) (tOp (rI0 fun i j => .int (i - j)) ta tb) (eBin dSub ma mb) := pm_bin op_sub (simR_I0 fun _ _ _ _ => .int _) ha hb
theorem pm_mul (ha : PMB X os a ta ma) (hb : PMB X os b tb mb) : PM X os (.BinOp a .Mult b pos) (tOp (rI CMul fun i j => .int (i * j)) ta tb) (eBin dMul ma mb) := pm_bin op_mul (simR_I (fun i j h => by
  unfold mulOk at h
  rcases Bool.or_eq_true_iff.mp h with h | h
  · exact .inl (of_decide_eq_true h)
  · exact .inr (of_decide_eq_true h)) fun _ _ _ _ => .int _) ha hb
theorem pm_mod (ha : PMB X os a ta ma) (hb : PMB X os b tb mb) : PM X os (.BinOp a .Mod b pos) (tOp (rI (fun _ j => 0 < j) fun i j => .int (i % j)) ta tb) (eBin dMod ma mb) := pm_bin op_mod (simR_I (fun _ _ h => by have := of_decide_eq_true h; exact this) fun _ _ _ _ => .int _) ha hb
theorem pm_div (ha : PMB X os a ta ma) (hb : PMB X os b tb mb) : PM X os (.BinOp a .FloorDiv b pos) (tOp (rI CDivN fun i j => .int (i.fdiv j)) ta tb) (eBin dDiv ma mb) := pm_bin op_fdivN (simR_I (fun _ _ h => by have := of_decide_eq_true h; exact this) fun _ _ _ _ => .int _) ha hb
theorem pm_pow (ha : PMB X os a ta ma) (hb : PMB X os b tb mb) : PM X os (.BinOp a .Pow b pos) (tOp (rI CPow fun i j => .int (i ^ j.toNat)) ta tb) (eBin dPow ma mb) := pm_bin op_pow (simR_I (fun _ _ h => by have := of_decide_eq_true h; exact this) fun _ _ _ _ => .int _) ha hb
theorem pm_lt (ha : PMB X os a ta ma) (hb : PMB X os b tb mb) : PMC X os (.Compare a [.Lt] [b] pos) (tOp (rI0 fun i j => .bl (decide (i < j))) ta tb) (eBin dLt ma mb) := pm_cmp op_lt (simR_I0 fun _ _ _ _ => .bl _) ha hb (nomark _)
theorem pm_le (ha : PMB X os a ta ma) (hb : PMB X os b tb mb) : PMC X os (.Compare a [.LtE] [b] pos) (tOp (rI0 fun i j => .bl (decide (i ≤ j))) ta tb) (eBin dLe ma mb) := pm_cmp op_le (simR_I0 fun _ _ _ _ => .bl _) ha hb (nomark _)
theorem pm_gt (ha : PMB X os a ta ma) (hb : PMB X os b tb mb) : PMC X os (.Compare a [.Gt] [b] pos) (tOp (rI0 fun i j => .bl (decide (j < i))) ta tb) (eBin dGt ma mb) := pm_cmp op_gt (simR_I0 fun _ _ _ _ => .bl _) ha hb (nomark _)
theorem pm_ge (ha : PMB X os a ta ma) (hb : PMB X os b tb mb) : PMC X os (.Compare a [.GtE] [b] pos) (tOp (rI0 fun i j => .bl (decide (j ≤ i))) ta tb) (eBin dGe ma mb) := pm_cmp op_ge (simR_I0 fun _ _ _ _ => .bl _) ha hb (nomark _)
def eNeg (m : Ev → M D) : Ev → M D := fun env => m env >>= fun x => match x with
  | .int i => pure (.int (-i))
  | _ => bad
theorem pm_neg (ha : PMB X os a ta ma) : PM X os (.UnaryOp .USub a pos) (tUn (rU fun i => .int (-i)) ta) (eNeg ma) := by
  obtain ⟨pa, sa⟩ := ha
  refine ⟨pe_un un_neg pa, fun C G σ H env d Q I w => ?_⟩
  unfold eNeg at w
  rw [Wp_bind] at w
  refine sa C G σ H env d _ I (w.imp fun x d1 w1 v1 H1 G1 A1 r1 => ?_)
  split at w1
  · rename_i i
    exact ⟨i, r1.int, w1 _ _ _ A1 (.int _)⟩
  · exact w1.elim

theorem pmt_val (h : PM X os e te m) (he : ∀ whole, isTrue e X.env whole = (do let v ← whole; standAt e.pos; holding [v] (truthy v)) := by intro _; rfl) : PMT X os e (tB te) (tB' m) := by
  obtain ⟨pe, se⟩ := h
  refine ⟨pt_val pe he, fun C G σ H env d Q I w => ?_⟩
  unfold tB' at w
  rw [Wp_bind] at w
  refine se C G σ H env d _ I (w.imp fun x d1 w1 v1 H1 G1 A1 r1 => ?_)
  split at w1
  · cases r1
    exact ⟨_, rfl, w1 _ _ A1⟩
  · exact w1.elim
def tAnd' (ma mb : Ev → M Bool) : Ev → M Bool := fun env => ma env >>= fun b => if b = true then mb env else pure false
def tOr' (ma mb : Ev → M Bool) : Ev → M Bool := fun env => ma env >>= fun b => if b = true then pure true else mb env
def tNot' (ma : Ev → M Bool) : Ev → M Bool := fun env => ma env >>= fun b => pure (!b)
variable {rest : List Expr} {ua ub tt : TT} {na nb : Ev → M Bool}
theorem PMW.t (h : PMW X os e tt na) : PMT X os e tt na := ⟨h.p.pt, h.s⟩
theorem pmw_and1 (h : PMT X os a tt na) : PMW X os (.BoolOp .And [a] pos) tt na := ⟨pw_and1 h.p, h.s⟩
theorem pmw_or1 (h : PMT X os a tt na) : PMW X os (.BoolOp .Or [a] pos) tt na := ⟨pw_or1 h.p, h.s⟩
theorem pmw_and (ha : PMT X os a ua na) (hb : PMW X os (.BoolOp .And (b :: rest) pos) ub nb) : PMW X os (.BoolOp .And (a :: b :: rest) pos) (tAnd ua ub) (tAnd' na nb) := by
  obtain ⟨pa, sa⟩ := ha
  obtain ⟨pb, sb⟩ := hb
  refine ⟨pw_and pa pb, fun C G σ H env d Q I w => ?_⟩
  unfold tAnd' at w
  rw [Wp_bind] at w
  refine sa C G σ H env d _ I (w.imp fun x d1 w1 H1 G1 A1 => ?_)
  cases x with
  | true => exact iteT (sb C G1 σ H1 env d1 _ (I.later A1) (Wp.imp w1 fun y d2 k H2 G2 A2 => k H2 G2 (A1.trans A2)))
  | false => exact iteF (w1 H1 G1 A1)
theorem pmw_or (ha : PMT X os a ua na) (hb : PMW X os (.BoolOp .Or (b :: rest) pos) ub nb) : PMW X os (.BoolOp .Or (a :: b :: rest) pos) (tOr ua ub) (tOr' na nb) := by
  obtain ⟨pa, sa⟩ := ha
  obtain ⟨pb, sb⟩ := hb
  refine ⟨pw_or pa pb, fun C G σ H env d Q I w => ?_⟩
  unfold tOr' at w
  rw [Wp_bind] at w
  refine sa C G σ H env d _ I (w.imp fun x d1 w1 H1 G1 A1 => ?_)
  cases x with
  | true => exact iteT (w1 H1 G1 A1)
  | false => exact iteF (sb C G1 σ H1 env d1 _ (I.later A1) (Wp.imp w1 fun y d2 k H2 G2 A2 => k H2 G2 (A1.trans A2)))
theorem pmt_not (ha : PMT X os a ua na) : PMT X os (.UnaryOp .Not a pos) (tNot ua) (tNot' na) := by
  obtain ⟨pa, sa⟩ := ha
  refine ⟨pt_not pa, fun C G σ H env d Q I w => ?_⟩
  unfold tNot' at w
  rw [Wp_bind] at w
  exact sa C G σ H env d _ I (w.imp fun x d1 w1 H1 G1 A1 => w1 H1 G1 A1)
/-- and, or, not as values: all truths but, perhaps, the last -/
def eAnd (ma mb : Ev → M D) : Ev → M D := fun env => ma env >>= fun x => match x with
  | .bl true => mb env
  | .bl false => pure (.bl false)
  | _ => bad
def eOr (ma mb : Ev → M D) : Ev → M D := fun env => ma env >>= fun x => match x with
  | .bl true => pure (.bl true)
  | .bl false => mb env
  | _ => bad
def eNot (ma : Ev → M D) : Ev → M D := fun env => ma env >>= fun x => match x with
  | .bl b => pure (.bl (!b))
  | _ => bad
theorem pm_one {op} (h : PM X os a ta ma) : PM X os (.BoolOp op [a] pos) ta ma := ⟨pe_one h.p, h.s⟩
theorem pm_and (ha : PM X os a ta ma) (hb : PM X os (.BoolOp .And (b :: rest) pos) tb mb) : PM X os (.BoolOp .And (a :: b :: rest) pos) (tAndV ta tb) (eAnd ma mb) := by
  obtain ⟨pa, sa⟩ := ha
  obtain ⟨pb, sb⟩ := hb
  refine ⟨pe_and pa pb, fun C G σ H env d Q I w => ?_⟩
  unfold eAnd at w
  rw [Wp_bind] at w
  refine sa C G σ H env d _ I (w.imp fun x d1 w1 v1 H1 G1 A1 r1 => ?_)
  split at w1
  · cases r1
    exact ⟨_, rfl, iteT (sb C G1 σ H1 env d1 _ (I.later A1) (Wp.imp w1 fun y d2 k v2 H2 G2 A2 r2 => k v2 H2 G2 (A1.trans A2) r2))⟩
  · cases r1
    exact ⟨_, rfl, iteF (w1 _ H1 G1 A1 (.bl _))⟩
  · exact w1.elim
theorem pm_or (ha : PM X os a ta ma) (hb : PM X os (.BoolOp .Or (b :: rest) pos) tb mb) : PM X os (.BoolOp .Or (a :: b :: rest) pos) (tOrV ta tb) (eOr ma mb) := by
  obtain ⟨pa, sa⟩ := ha
  obtain ⟨pb, sb⟩ := hb
  refine ⟨pe_or pa pb, fun C G σ H env d Q I w => ?_⟩
  unfold eOr at w
  rw [Wp_bind] at w
  refine sa C G σ H env d _ I (w.imp fun x d1 w1 v1 H1 G1 A1 r1 => ?_)
  split at w1
  · cases r1
    exact ⟨_, rfl, iteT (w1 _ H1 G1 A1 (.bl _))⟩
  · cases r1
    exact ⟨_, rfl, iteF (sb C G1 σ H1 env d1 _ (I.later A1) (Wp.imp w1 fun y d2 k v2 H2 G2 A2 r2 => k v2 H2 G2 (A1.trans A2) r2))⟩
  · exact w1.elim
theorem pm_not (ha : PM X os a ta ma) : PM X os (.UnaryOp .Not a pos) (tNotV ta) (eNot ma) := by
  obtain ⟨pa, sa⟩ := ha
  refine ⟨pe_not pa, fun C G σ H env d Q I w => ?_⟩
  unfold eNot at w
  rw [Wp_bind] at w
  refine sa C G σ H env d _ I (w.imp fun x d1 w1 v1 H1 G1 A1 r1 => ?_)
  split at w1
  · cases r1
    exact ⟨_, rfl, w1 _ H1 G1 A1 (.bl _)⟩
  · exact w1.elim
def eIf (n : Ev → M Bool) (ma mb : Ev → M D) : Ev → M D := fun env => n env >>= fun b => if b = true then ma env else mb env
theorem pm_if (hc : PMT X os c tt na) (ha : PM X os a ta ma) (hb : PM X os b tb mb) : PM X os (.IfExp c a b pos) (tIf tt ta tb) (eIf na ma mb) := by
  obtain ⟨pc, sc⟩ := hc
  obtain ⟨pa, sa⟩ := ha
  obtain ⟨pb, sb⟩ := hb
  refine ⟨pe_ifExp pc pa pb, fun C G σ H env d Q I w => ?_⟩
  unfold eIf at w
  rw [Wp_bind] at w
  refine sc C G σ H env d _ I (w.imp fun x d1 w1 H1 G1 A1 => ?_)
  cases x with
  | true => exact iteT (sa C G1 σ H1 env d1 _ (I.later A1) (Wp.imp w1 fun y d2 k v2 H2 G2 A2 r2 => k v2 H2 G2 (A1.trans A2) r2))
  | false => exact iteF (sb C G1 σ H1 env d1 _ (I.later A1) (Wp.imp w1 fun y d2 k v2 H2 G2 A2 r2 => k v2 H2 G2 (A1.trans A2) r2))
end

/-! ### arguments -/
section
variable {X : Cx} {os : List Nat} {e : Expr} {es : List Expr} {te : TE} {ta : TA} {m : Ev → M D} {ms : Ev → M (List D)} {pos : Pos}
def aNil : Ev → M (List D) := fun _ => pure []
def aCons (m : Ev → M D) (ms : Ev → M (List D)) : Ev → M (List D) := fun env => m env >>= fun x => ms env >>= fun xs => pure (x :: xs)
theorem pma_nil : PMA X os [] tNil aNil := ⟨pa_nil, fun C G σ H env d Q I w => w [] H G (Aft.refl I.st I.sub) .nil⟩
theorem pma_cons (ha : PM X os e te m) (hr : PMA X os es ta ms) (hs : starEach (e :: es) X.env = (false, eval e X.env) :: starEach es X.env := by rfl) : PMA X os (e :: es) (tCons te ta) (aCons m ms) := by
  obtain ⟨pa, sa⟩ := ha
  obtain ⟨pr, sr⟩ := hr
  refine ⟨pa_cons pa pr hs, fun C G σ H env d Q I w => ?_⟩
  unfold aCons at w
  rw [Wp_bind] at w
  refine sa C G σ H env d _ I (w.imp fun x d1 w1 v1 H1 G1 A1 r1 => ?_)
  rw [Wp_bind] at w1
  exact sr C G1 σ H1 env d1 _ (I.later A1) (w1.imp fun y d2 k vs H2 G2 A2 r2 => k (v1 :: vs) H2 G2 (A1.trans A2) (.cons (r1.mono A2.gm) r2))
def eTup (ms : Ev → M (List D)) : Ev → M D := fun env => ms env >>= fun xs => guardB (decide (xs.length ≤ sizeLine)) (pure (.tup xs))
def eLst (ms : Ev → M (List D)) : Ev → M D := fun env => ms env >>= fun xs => guardB (decide (xs.length ≤ sizeLine)) (pure (.lst xs))
end
end Mir
end
section
set_option Elab.async false
set_option linter.all false
set_option maxRecDepth 100000
set_option maxHeartbeats 2000000
/-! Mir, part C: displays, calls, fields, statements, loops, comprehensions. -/
namespace Mir
open PySem PySem.Spec PyProof.Rows L2

section
variable {X : Cx} {os : List Nat} {e : Expr} {es : List Expr} {ta : TA} {m : Ev → M D} {ms : Ev → M (List D)} {pos : Pos}
theorem pm_tup {x1} (h : PMA X os es ta ms) : PM X os (.Tuple es x1 pos) (tTup ta) (eTup ms) := by
  obtain ⟨pa, sa⟩ := h
  refine ⟨pe_tup pa, fun C G σ H env d Q I w => ?_⟩
  unfold eTup at w
  rw [Wp_bind] at w
  refine sa C G σ H env d _ I (w.imp fun xs d1 w1 vs H1 G1 A1 r1 => ?_)
  rw [Wp_guard] at w1
  obtain ⟨hl, k⟩ := w1
  refine ⟨by rw [r1.length]; exact of_decide_eq_true hl, fun p hp => ?_⟩
  exact k _ _ _ (A1.trans (Aft.new A1.st A1.sub hp)) (.tup (.inl (.inl upd_same)) (r1.mono (Le.new (A1.sub.free hp))))
theorem pmf_lst (h : PMA X os es ta ms) : PMF X os (.List es pos) (tLst ta) (eLst ms) := by
  obtain ⟨pa, sa⟩ := h
  refine ⟨pe_lst pa, fun C G σ H env d Q I w => ?_⟩
  unfold eLst at w
  rw [Wp_bind] at w
  refine sa C G σ H env d _ I (w.imp fun xs d1 w1 vs H1 G1 A1 r1 => ?_)
  rw [Wp_guard] at w1
  obtain ⟨hl, k⟩ := w1
  refine ⟨by rw [r1.length]; exact of_decide_eq_true hl, fun p hp => ?_⟩
  exact k _ _ _ (A1.trans (Aft.newF A1.st A1.sub hp)) (.lst (A1.free hp) (A1.sub.free hp) upd_same r1)
end

/-! ### promises of defs -/
section
variable (K : PySem.W.Frag) (mg : Str → Option Value)
/-- called with n values that stand for data, the def does what f does and hands back what stands for its answer -/
def spM (n : Nat) (f : List D → M D) : Sp := fun vs H Q _ => vs.length = n ∧ ∃ S G ds d, StR S H d ∧ Sub S G H ∧ Reps K mg S G vs ds ∧ Wp (f ds d) fun x d' => ∀ v H' G', Aft S G H G' H' d' → Rep K mg S G' v x → Q v H'
/-- .. a new object -/
def spN (n : Nat) (f : List D → M D) : Sp := fun vs H Q _ => vs.length = n ∧ ∃ S G ds d, StR S H d ∧ Sub S G H ∧ Reps K mg S G vs ds ∧ Wp (f ds d) fun x d' => ∀ v H' G', Aft S G H G' H' d' → RepN K mg S G H G' H' v x → Q v H'
end
def eCall (n : Nat) (f : List D → M D) (ms : Ev → M (List D)) : Ev → M D := fun env => ms env >>= fun xs => guardB (xs.length == n) (f xs)
section
variable {X : Cx} {os : List Nat} {e o : Expr} {es : List Expr} {te to : TE} {ta : TA} {m mo : Ev → M D} {ms : Ev → M (List D)} {x c mt : Str} {p pos apos : Pos} {k n : Nat} {f : Addr} {fd : FuncData} {ps : List Str} {mf : List D → M D} {Cc : Addr}
theorem simE_call {K : PySem.W.Frag} {mg : Str → Option Value} {C : Ct} (E : XK) (sa : SimA K mg C os ta ms) : SimE K mg C os (tCall (spM K mg n mf) [] E ta) (eCall n mf ms) := by
  intro G σ H env d Q I w
  unfold eCall at w
  rw [Wp_bind] at w
  refine sa G σ H env d _ I (w.imp fun xs d1 w1 vs H1 G1 A1 r1 => ?_)
  rw [Wp_guard] at w1
  have hl : xs.length = n := by simpa using w1.1
  show spM K mg n mf (vs ++ []) H1 Q E
  rw [List.append_nil]
  exact ⟨by rw [r1.length]; exact hl, C.S, G1, xs, d1, A1.st, A1.sub, r1, w1.2.imp fun y d2 kk v H' G' A2 r2 => kk v H' G' (A1.trans A2) r2⟩
theorem simF_call {K : PySem.W.Frag} {mg : Str → Option Value} {C : Ct} (E : XK) (sa : SimA K mg C os ta ms) : SimF K mg C os (tCall (spN K mg n mf) [] E ta) (eCall n mf ms) := by
  intro G σ H env d Q I w
  unfold eCall at w
  rw [Wp_bind] at w
  refine sa G σ H env d _ I (w.imp fun xs d1 w1 vs H1 G1 A1 r1 => ?_)
  rw [Wp_guard] at w1
  have hl : xs.length = n := by simpa using w1.1
  show spN K mg n mf (vs ++ []) H1 Q E
  rw [List.append_nil]
  exact ⟨by rw [r1.length]; exact hl, C.S, G1, xs, d1, A1.st, A1.sub, r1, w1.2.imp fun y d2 kk v H' G' A2 r2 => kk v H' G' (A1.trans A2) (RepN.pull A1 r2)⟩
theorem pm_call (F : FnOk X.prog X.w X.K X.mg X.base CX0 k f fd ps (spM X.K X.mg n mf)) (hr : Room k X.A) (hg : Gl X x) (hm : X.mg x = some (.ref f)) (hk : PySem.W.keepIn X.K (.ref f) = true) (hb : Binds X.K fd ps []) (ha : PMA X os (e :: es) ta ms)
    (hdb : (x == ("__debug__" : Str)) = false := by decide) (he : starEach (e :: es) X.env = (false, eval e X.env) :: starEach es X.env := by rfl) (hpl : (backTo pos (starEach es X.env)).any (·.1) = false := by rfl) :
    PM X os (.Call (.Name x p) (e :: es) [] pos) (tCall (spM X.K X.mg n mf) [] E0 ta) (eCall n mf ms) :=
  ⟨pe_call F hr hg hm hk hb .nil pass0 ha.p hdb he hpl, fun C => simE_call _ (ha.s C)⟩
theorem pmf_call (F : FnOk X.prog X.w X.K X.mg X.base CX0 k f fd ps (spN X.K X.mg n mf)) (hr : Room k X.A) (hg : Gl X x) (hm : X.mg x = some (.ref f)) (hk : PySem.W.keepIn X.K (.ref f) = true) (hb : Binds X.K fd ps []) (ha : PMA X os (e :: es) ta ms)
    (hdb : (x == ("__debug__" : Str)) = false := by decide) (he : starEach (e :: es) X.env = (false, eval e X.env) :: starEach es X.env := by rfl) (hpl : (backTo pos (starEach es X.env)).any (·.1) = false := by rfl) :
    PMF X os (.Call (.Name x p) (e :: es) [] pos) (tCall (spN X.K X.mg n mf) [] E0 ta) (eCall n mf ms) :=
  ⟨pe_call F hr hg hm hk hb .nil pass0 ha.p hdb he hpl, fun C => simF_call _ (ha.s C)⟩
end

/-! ### objects: fields, methods -/
theorem RepF.look {K : PySem.W.Frag} {mg : Str → Option Value} {S : SA} {G : Hp} : ∀ {vfs : List (Str × V)} {fs : List (Str × D)} {f : Str} {x : D}, RepF K mg S G vfs fs → fs.lookup f = some x → ∃ v, vfs.lookup f = some v ∧ Rep K mg S G v x
  | _, _, _, _, .nil, e => nomatch e
  | (k, v) :: vs, (_, d) :: ds, f, x, .cons a b, e => by
    rw [List.lookup_cons] at e ⊢
    cases h : f == k with
    | true =>
      rw [h] at e
      cases e
      exact ⟨v, rfl, a⟩
    | false =>
      rw [h] at e
      exact RepF.look b e
theorem RepF.lookN {K : PySem.W.Frag} {mg : Str → Option Value} {S : SA} {G : Hp} : ∀ {vfs : List (Str × V)} {fs : List (Str × D)} {f : Str}, RepF K mg S G vfs fs → fs.lookup f = none → vfs.lookup f = none
  | _, _, _, .nil, _ => rfl
  | (k, v) :: vs, (_, d) :: ds, f, .cons a b, e => by
    rw [List.lookup_cons] at e ⊢
    cases h : f == k with
    | true => rw [h] at e; cases e
    | false => rw [h] at e; exact RepF.lookN b e
section
variable {X : Cx} {os : List Nat} {e o : Expr} {es : List Expr} {te to : TE} {ta : TA} {m mo : Ev → M D} {ms : Ev → M (List D)} {x c mt : Str} {p pos apos : Pos} {k n : Nat} {f : Addr} {fd : FuncData} {ps : List Str} {mf : List D → M D} {Cc : Addr}
def eFld (c f : Str) (mo : Ev → M D) : Ev → M D := fun env => mo env >>= fun x => match x with
  | .obj c' fs => guardB (decide (c' = c)) (match fs.lookup f with
    | some y => pure y
    | none => bad)
  | _ => bad
theorem pm_fld {fl : Str} (ho : PM X os o to mo) (hC : X.mg c = some (.ref Cc)) (hc : Cls X.K Cc) (hn : NoAttr X.K Cc fl) (hb : attributeBase o fl X.env (eval o X.env) = eval o X.env := by rfl) : PM X os (.Attribute o fl pos) (tFld X.K to fl) (eFld c fl mo) := by
  obtain ⟨po, so⟩ := ho
  refine ⟨pe_fld po hb, fun C G σ H env d Q I w => ?_⟩
  unfold eFld at w
  rw [Wp_bind] at w
  refine so C G σ H env d _ I (w.imp fun y d1 w1 v1 H1 G1 A1 r1 => ?_)
  split at w1
  · rename_i c' fs
    rw [Wp_guard] at w1
    obtain ⟨ec, w1⟩ := w1
    have ec : c' = c := of_decide_eq_true ec
    subst ec
    cases ez : fs.lookup fl with
    | none => simp only [ez] at w1; exact w1.elim
    | some z =>
      simp only [ez] at w1
      cases r1 with
      | @obj a C' dx _ vfs _ hm hG rf =>
        rw [hC] at hm
        cases hm
        obtain ⟨v, e1, rv⟩ := rf.look ez
        exact ⟨_, _, _, _, v, rfl, A1.sub.le _ _ hG, hc, hn, e1, w1 v H1 G1 A1 rv⟩
  · exact w1.elim
/-- o.m(..) -/
def eMeth (c mt : Str) (n : Nat) (f : List D → M D) (mo : Ev → M D) (ms : Ev → M (List D)) : Ev → M D := fun env => mo env >>= fun x => match x with
  | .obj c' fs => guardB (decide (c' = c) && (fs.lookup mt).isNone) (ms env >>= fun xs => guardB (xs.length + 1 == n) (f (.obj c' fs :: xs)))
  | _ => bad
theorem sim_meth_aux {K : PySem.W.Frag} {mg : Str → Option Value} {C : Ct} {P : SA → Hp → Hp → Hp → Hp → V → D → Prop} {E : XK} {sp : Sp} (hC : mg c = some (.ref Cc)) (so : SimE K mg C os to mo) (sa : SimA K mg C os ta ms)
    (hsp : ∀ vs H Q, (vs.length = n ∧ ∃ S G ds d, StR S H d ∧ Sub S G H ∧ Reps K mg S G vs ds ∧ Wp (mf ds d) fun x d' => ∀ v H' G', Aft S G H G' H' d' → P S G H G' H' v x → Q v H') → sp vs H Q E)
    (pull : ∀ {G H G1 H1 G2 H2 : Hp} {d0 d1 : Drw} {v : V} {x : D}, StR C.S H d0 → Aft C.S G H G1 H1 d1 → P C.S G1 H1 G2 H2 v x → P C.S G H G2 H2 v x) :
    ∀ G σ H env d Q, IM K mg C os env σ H G d → Wp (eMeth c mt n mf mo ms env d) (fun x d' => ∀ v H' G', Aft C.S G H G' H' d' → P C.S G H G' H' v x → Q v H') → tMeth Cc mt sp [] E to ta σ H Q := by
  intro G σ H env d Q I w
  unfold eMeth at w
  rw [Wp_bind] at w
  refine so G σ H env d _ I (w.imp fun y d1 w1 v1 H1 G1 A1 r1 => ?_)
  split at w1
  · rename_i c' fs
    rw [Wp_guard] at w1
    obtain ⟨ec, w1⟩ := w1
    rw [Bool.and_eq_true] at ec
    have e1 : c' = c := of_decide_eq_true ec.1
    have e2 : fs.lookup mt = none := by simpa using ec.2
    subst e1
    rw [Wp_bind] at w1
    cases r1 with
    | @obj a C' dx _ vfs _ hm hG rf =>
      rw [hC] at hm
      cases hm
      refine ⟨_, _, _, rfl, A1.sub.le _ _ hG, rf.lookN e2, ?_⟩
      refine sa G1 σ H1 env d1 _ (I.later A1) (w1.imp fun xs d2 w2 vs H2 G2 A2 r2 => ?_)
      rw [Wp_guard] at w2
      have hl : xs.length + 1 = n := by simpa using w2.1
      refine hsp _ _ _ ?_
      rw [List.append_nil]
      refine ⟨by rw [List.length_cons, r2.length]; exact hl, C.S, G2, .obj c' fs :: xs, d2, A2.st, A2.sub, .cons (.obj hC (A2.gm _ _ hG) (rf.mono A2.gm)) r2, w2.2.imp fun z d3 kk v H' G' A3 r3 => ?_⟩
      exact kk v H' G' (A1.trans (A2.trans A3)) (pull I.st (A1.trans A2) r3)
  · exact w1.elim
theorem pm_meth {pl : Sem Bool} (hC : X.mg c = some (.ref Cc)) (ho : PM X os o to mo) (hc : Cls X.K Cc) (hm : Meth X.K Cc mt f) (F : FnOk X.prog X.w X.K X.mg X.base CX0 k f fd ps (spM X.K X.mg n mf)) (hr : Room k X.A) (hb : Binds X.K fd ps []) (ha : PMA X os (e :: es) ta ms)
    (hst : starEach (e :: es) X.env = (false, eval e X.env) :: starEach es X.env := by rfl) (hpl : (backTo pos (starEach es X.env)).any (·.1) = false := by rfl)
    (ht : eval (.Call (.Attribute o mt apos) (e :: es) [] pos) X.env = (do
      let ov ← eval o X.env
      standAt apos.atName
      let (f, first) ← holding [ov] (getMethod ov mt pl)
      callWith pos f first (backTo pos (starEach (e :: es) X.env)) (backToKw pos (keywordEach [] X.env))) := by rfl) :
    PM X os (.Call (.Attribute o mt apos) (e :: es) [] pos) (tMeth Cc mt (spM X.K X.mg n mf) [] E0 to ta) (eMeth c mt n mf mo ms) := by
  obtain ⟨po, so⟩ := ho
  obtain ⟨pa, sa⟩ := ha
  exact ⟨pe_meth po hc hm F hr hb .nil pass0 pa hst hpl ht, fun C => sim_meth_aux (P := fun S _ _ G' _ v x => Rep X.K X.mg S G' v x) hC (so C) (sa C) (fun _ _ _ h => h) (fun _ _ h => h)⟩
theorem pm_meth0 {pl : Sem Bool} (hC : X.mg c = some (.ref Cc)) (ho : PM X os o to mo) (hc : Cls X.K Cc) (hm : Meth X.K Cc mt f) (F : FnOk X.prog X.w X.K X.mg X.base CX0 k f fd ps (spM X.K X.mg n mf)) (hr : Room k X.A) (hb : Binds X.K fd ps [])
    (ht : eval (.Call (.Attribute o mt apos) [] [] pos) X.env = (do
      let ov ← eval o X.env
      standAt apos.atName
      let (f, first) ← holding [ov] (getMethod ov mt pl)
      callWith pos f first (backTo pos (starEach [] X.env)) (backToKw pos (keywordEach [] X.env))) := by rfl) :
    PM X os (.Call (.Attribute o mt apos) [] [] pos) (tMeth Cc mt (spM X.K X.mg n mf) [] E0 to tNil) (eMeth c mt n mf mo aNil) := by
  obtain ⟨po, so⟩ := ho
  exact ⟨pe_meth0 po hc hm F hr hb .nil pass0 ht, fun C => sim_meth_aux (P := fun S _ _ G' _ v x => Rep X.K X.mg S G' v x) hC (so C) (fun G σ H env d Q I w => w [] H G (Aft.refl I.st I.sub) .nil) (fun _ _ _ h => h) (fun _ _ h => h)⟩
theorem pmf_meth0 {pl : Sem Bool} (hC : X.mg c = some (.ref Cc)) (ho : PM X os o to mo) (hc : Cls X.K Cc) (hm : Meth X.K Cc mt f) (F : FnOk X.prog X.w X.K X.mg X.base CX0 k f fd ps (spN X.K X.mg n mf)) (hr : Room k X.A) (hb : Binds X.K fd ps [])
    (ht : eval (.Call (.Attribute o mt apos) [] [] pos) X.env = (do
      let ov ← eval o X.env
      standAt apos.atName
      let (f, first) ← holding [ov] (getMethod ov mt pl)
      callWith pos f first (backTo pos (starEach [] X.env)) (backToKw pos (keywordEach [] X.env))) := by rfl) :
    PMF X os (.Call (.Attribute o mt apos) [] [] pos) (tMeth Cc mt (spN X.K X.mg n mf) [] E0 to tNil) (eMeth c mt n mf mo aNil) := by
  obtain ⟨po, so⟩ := ho
  exact ⟨pe_meth0 po hc hm F hr hb .nil pass0 ht, fun C => sim_meth_aux (P := fun S G0 H0 G' H' v x => RepN X.K X.mg S G0 H0 G' H' v x) hC (so C) (fun G σ H env d Q I w => w [] H G (Aft.refl I.st I.sub) .nil) (fun _ _ _ h => h)
    (fun _ A h => RepN.pull A h)⟩
end

/-! ### statements -/
section
variable {X : Cx} {fr : Bool} {os os' o2 ol : List Nat} {e c : Expr} {es : List Expr} {te : TE} {tt : TT} {m : Ev → M D} {n : Ev → M Bool} {ms : Ev → M (List D)} {pos : Pos} {st : Stmt} {rest a b : List Stmt} {ma mb : Ev → M Ctl}
def cNx : Ev → M Ctl := fun env => pure (.nx env)
def cSeq (a b : Ev → M Ctl) : Ev → M Ctl := fun env => a env >>= fun c => match c with
  | .nx e => b e
  | c => pure c
def cSet (i : Nat) (m : Ev → M D) : Ev → M Ctl := fun env => m env >>= fun x => pure (.nx (env.set i (some x)))
def cRet (m : Ev → M D) : Ev → M Ctl := fun env => m env >>= fun x => pure (.ret x)
def cIf (n : Ev → M Bool) (a b : Ev → M Ctl) : Ev → M Ctl := fun env => n env >>= fun t => if t = true then a env else b env
def cDrop (m : Ev → M D) : Ev → M Ctl := fun env => m env >>= fun _ => pure (.nx env)
theorem pmss_nil : PMSs X fr os os ol [] cNx := ⟨_, pss_nil, fun C G σ H env d D I w => w σ H G (Le.refl G) I⟩
theorem simS_seq {K : PySem.W.Frag} {mg : Str → Option Value} {C : Ct} {t u : TS} (h1 : SimS K mg C fr os os' ol t ma) (h2 : SimS K mg C fr os' o2 ol u mb) : SimS K mg C fr os o2 ol (tSeq t u) (cSeq ma mb) := by
  intro G σ H env d D I w
  unfold cSeq at w
  rw [Wp_bind] at w
  refine h1 G σ H env d { D with nx := u D } I (w.imp fun c d1 k => ?_)
  cases c with
  | nx e' => exact fun σ' H' G' le I' => h2 G' σ' H' e' d1 D I' (Wp.imp k fun c2 d2 k2 => CPost.le k2 le)
  | ret x => exact k
  | brk e' => exact k
  | cont e' => exact k
theorem pmss_cons (h1 : PMS X fr os os' ol st ma) (h2 : PMSs X fr os' o2 ol rest mb) : PMSs X fr os o2 ol (st :: rest) (cSeq ma mb) :=
  let ⟨_, p1, s1⟩ := h1; let ⟨_, p2, s2⟩ := h2; ⟨_, pss_cons p1 p2, fun C => simS_seq (s1 C) (s2 C)⟩
theorem pmss_one (h1 : PMS X fr os os' ol st ma) : PMSs X fr os os' ol [st] ma := let ⟨_, p1, s1⟩ := h1; ⟨_, pss_one p1, s1⟩
theorem pms_ret (h : PM X os e te m) : PMS X false os os' ol (.Return (some e) pos) (cRet m) := by
  obtain ⟨p, s⟩ := h
  refine ⟨_, ps_ret p, fun C G σ H env d D I w => ?_⟩
  unfold cRet at w
  rw [Wp_bind] at w
  exact s C G σ H env d _ I (w.imp fun x d1 k v H' G' A r => k v H' G' (I.aft.trans A) r)
theorem pms_retF (h : PMF X os e te m) : PMS X true os os' ol (.Return (some e) pos) (cRet m) := by
  obtain ⟨p, s⟩ := h
  refine ⟨_, ps_ret p, fun C G σ H env d D I w => ?_⟩
  unfold cRet at w
  rw [Wp_bind] at w
  exact s C G σ H env d _ I (w.imp fun x d1 k v H' G' A r => k v H' G' (I.aft.trans A) (RepN.pull I.aft r))
/-- return x, x a slot of one's own -/
theorem pms_retO (i : Nat) {x : Str} {p2 : Pos} (hi : i ∈ os := by decide) (hN : X.N[i]? = some x := by rfl) (hv : Vis X.env.scope x := by first | exact Or.inl rfl | exact Or.inr (Or.inl rfl) | exact Or.inr (Or.inr rfl)) (hd : (x == ("__debug__" : Str)) = false := by decide)
    (hcd : (x == ("__classdict__" : Str)) = false := by decide) : PMS X fr os os' ol (.Return (some (.Name x p2)) pos) (cRet (eVar i)) := by
  refine ⟨_, ps_ret (pe_frz (pe_var hN hv hd hcd)), fun C G σ H env d D I w => ?_⟩
  unfold cRet at w
  rw [Wp_bind] at w
  obtain ⟨y, e1, k⟩ := eVar_some w
  obtain ⟨v, e2, ov⟩ := I.ow i y hi e1
  cases ov with
  | non =>
    refine ⟨_, e2, .inl (k _ H G I.aft ?_)⟩
    cases fr with
    | true => exact .non
    | false => exact .non
  | ref oa =>
  have oo := oa.o
  cases fr with
  | true =>
    refine ⟨_, e2, .inl (k _ H G I.aft ?_)⟩
    cases y with
    | lst ds => obtain ⟨vs, h1, h2⟩ := oo; exact .lst oa.h oa.g h1 h2
    | dic ds => obtain ⟨vs, h1, h2⟩ := oo; exact .dic oa.h oa.g h1 h2
    | _ => exact oo.elim
  | false =>
    cases y with
    | lst ds =>
      obtain ⟨vs, h1, h2⟩ := oo
      exact ⟨_, e2, .inl (k _ H _ (I.aft.freeze oa.n oa.g oa.h h1) (.lst upd_same (h2.mono (Le.new oa.g))))⟩
    | dic ds =>
      obtain ⟨vs, h1, h2⟩ := oo
      exact ⟨_, e2, .inr ⟨_, _, rfl, h1, fun od => k _ _ _ (I.aft.frzD oa.n oa.g oa.h h1) (.dic upd_same (h2.mono (Le.new oa.g)))⟩⟩
    | _ => exact oo.elim
theorem pms_retN : PMS X false os os' ol (.Return none pos) (cRet (eC .non)) := ⟨_, ps_retN, fun C G σ H env d D I w => w .non H G I.aft .non⟩
theorem pms_if (hc : PMT X os c tt n) (ha : PMSs X fr os os' ol a ma) (hb : PMSs X fr os os' ol b mb) : PMS X fr os os' ol (.If c a b pos) (cIf n ma mb) := by
  obtain ⟨pc, sc⟩ := hc
  obtain ⟨ta, pa, sa⟩ := ha
  obtain ⟨tb, pb, sb⟩ := hb
  refine ⟨_, ps_if pc pa pb, fun C G σ H env d D I w => ?_⟩
  unfold cIf at w
  rw [Wp_bind] at w
  refine sc C G σ H env d _ I (w.imp fun x d1 w1 H1 G1 A1 => ?_)
  have up : ∀ {t : TS} {mm : Ev → M Ctl}, SimS X.K X.mg C fr os os' ol t mm → Wp (mm env d1) (CPost X.K X.mg C fr os' ol G D) → t D σ H1 := fun {t mm} s w2 => s G1 σ H1 env d1 D (I.later A1) (Wp.imp w2 fun c2 d2 k2 => CPost.le k2 A1.gm)
  cases x with
  | true => exact iteT (up (sa C) w1)
  | false => exact iteF (up (sb C) w1)
theorem pms_drop (h : PM X os e te m) (hs : swapsWith e none pos.line X.env = pure false := by rfl) : PMS X fr os os ol (.Expr e pos) (cDrop m) := by
  obtain ⟨p, s⟩ := h
  refine ⟨_, ps_expr p hs, fun C G σ H env d D I w => ?_⟩
  unfold cDrop at w
  rw [Wp_bind] at w
  exact s C G σ H env d _ I (w.imp fun x d1 k v H' G' A r => k σ H' G' A.gm (I.later A))
end
end Mir
end
section
set_option Elab.async false
set_option linter.all false
set_option maxRecDepth 100000
set_option maxHeartbeats 2000000
/-! Mir, part D: assignments, targets, loops, comprehensions, defs. -/
namespace Mir
open PySem PySem.Spec PyProof.Rows L2

section
variable {K : PySem.W.Frag} {mg : Str → Option Value} {C : Ct} {os : List Nat} {env : Ev} {σ : St} {G H G' H' : Hp} {d d' : Drw} {v : V} {x : D} {i : Nat}
theorem IM.set_sh (I : IM K mg C os env σ H G d) (hi : i ∉ os) (r : Rep K mg C.S G v x) : IM K mg C os (env.set i (some x)) (σ.set i (some v)) H G d where
  aft := I.aft
  len := by rw [List.length_set, List.length_set]; exact I.len
  sh := fun j y hj e => by
    by_cases z : i = j
    · subst z
      have hl : i < env.length := by
        have := (List.getElem?_eq_some_iff.mp e).1
        rwa [List.length_set] at this
      rw [List.getElem?_set_self hl] at e
      cases e
      exact ⟨v, List.getElem?_set_self (by rw [I.len]; exact hl), r⟩
    · rw [List.getElem?_set_ne z] at e ⊢
      exact I.sh j y hj e
  ow := fun j y hj e => by
    have z : i ≠ j := fun z => hi (z ▸ hj)
    rw [List.getElem?_set_ne z] at e ⊢
    exact I.ow j y hj e
  dis := fun j k y z a hj hk e1 e2 e3 e4 => by
    have z1 : i ≠ j := fun z => hi (z ▸ hj)
    have z2 : i ≠ k := fun z => hi (z ▸ hk)
    rw [List.getElem?_set_ne z1] at e1 e3
    rw [List.getElem?_set_ne z2] at e2 e4
    exact I.dis j k y z a hj hk e1 e2 e3 e4
theorem IM.set_ow {a : Addr} (I : IM K mg C os env σ H G d) (hi : i ∈ os) (o : OwnA K mg C G H a x) (hu : ∀ j y, j ∈ os → j ≠ i → env[j]? = some (some y) → σ[j]? ≠ some (some (.ref a))) : IM K mg C os (env.set i (some x)) (σ.set i (some (.ref a))) H G d where
  aft := I.aft
  len := by rw [List.length_set, List.length_set]; exact I.len
  sh := fun j y hj e => by
    have z : i ≠ j := fun z => hj (z ▸ hi)
    rw [List.getElem?_set_ne z] at e ⊢
    exact I.sh j y hj e
  ow := fun j y hj e => by
    by_cases z : i = j
    · subst z
      have hl : i < env.length := by
        have := (List.getElem?_eq_some_iff.mp e).1
        rwa [List.length_set] at this
      rw [List.getElem?_set_self hl] at e
      cases e
      exact ⟨_, List.getElem?_set_self (by rw [I.len]; exact hl), .ref o⟩
    · rw [List.getElem?_set_ne z] at e ⊢
      exact I.ow j y hj e
  dis := fun j k y z b hj hk e1 e2 e3 e4 => by
    by_cases z1 : i = j
    · by_cases z2 : i = k
      · rw [← z1, ← z2]
      · subst z1
        rw [List.getElem?_set_ne z2] at e2 e4
        have hl : i < σ.length := by
          have := (List.getElem?_eq_some_iff.mp e3).1
          rwa [List.length_set] at this
        rw [List.getElem?_set_self hl] at e3
        cases e3
        exact absurd e4 (hu k z hk (Ne.symm z2) e2)
    · by_cases z2 : i = k
      · subst z2
        rw [List.getElem?_set_ne z1] at e1 e3
        have hl : i < σ.length := by
          have := (List.getElem?_eq_some_iff.mp e4).1
          rwa [List.length_set] at this
        rw [List.getElem?_set_self hl] at e4
        cases e4
        exact absurd e3 (hu j y hj (Ne.symm z1) e1)
      · rw [List.getElem?_set_ne z1] at e1 e3
        rw [List.getElem?_set_ne z2] at e2 e4
        exact I.dis j k y z b hj hk e1 e2 e3 e4
theorem IM.set_non (I : IM K mg C os env σ H G d) (hi : i ∈ os) : IM K mg C os (env.set i (some .non)) (σ.set i (some .non)) H G d where
  aft := I.aft
  len := by rw [List.length_set, List.length_set]; exact I.len
  sh := fun j y hj e => by
    have z : i ≠ j := fun z => hj (z ▸ hi)
    rw [List.getElem?_set_ne z] at e ⊢
    exact I.sh j y hj e
  ow := fun j y hj e => by
    by_cases z : i = j
    · subst z
      have hl : i < env.length := by
        have := (List.getElem?_eq_some_iff.mp e).1
        rwa [List.length_set] at this
      rw [List.getElem?_set_self hl] at e
      cases e
      exact ⟨_, List.getElem?_set_self (by rw [I.len]; exact hl), .non⟩
    · rw [List.getElem?_set_ne z] at e ⊢
      exact I.ow j y hj e
  dis := fun j k y z b hj hk e1 e2 e3 e4 => by
    have self : ∀ {l : Nat} {q : Addr}, i = l → (σ.set i (some .non))[l]? = some (some (.ref q)) → False := fun {l q} zl e => by
      subst zl
      have hl := (List.getElem?_eq_some_iff.mp e).1
      rw [List.length_set] at hl
      rw [List.getElem?_set_self hl] at e
      cases e
    by_cases z1 : i = j
    · exact (self z1 e3).elim
    · by_cases z2 : i = k
      · exact (self z2 e4).elim
      · rw [List.getElem?_set_ne z1] at e1 e3
        rw [List.getElem?_set_ne z2] at e2 e4
        exact I.dis j k y z b hj hk e1 e2 e3 e4
/-- a new one laid into a slot of one's own -/
theorem IM.set_new (I : IM K mg C os env σ H G d) (A : Aft C.S G H G' H' d') (hi : i ∈ os) (r : RepN K mg C.S G H G' H' v x) : IM K mg C os (env.set i (some x)) (σ.set i (some v)) H' G' d' := by
  have I' := I.later A
  have hu : ∀ {a : Addr}, H a = none → ∀ j y, j ∈ os → j ≠ i → env[j]? = some (some y) → σ[j]? ≠ some (some (.ref a)) := fun {a} n j y hj _ e z => by
    obtain ⟨b, e1, o⟩ := I.ow j y hj e
    rw [z] at e1
    cases e1
    cases o with
    | ref o => exact o.o.at n
  cases r with
  | non => exact I'.set_non hi
  | lst n g h r => exact I'.set_ow hi ⟨g, I.st.off n, I.aft.free n, ⟨_, h, r⟩⟩ (hu n)
  | dic n g h r => exact I'.set_ow hi ⟨g, I.st.off n, I.aft.free n, ⟨_, h, r⟩⟩ (hu n)
end

section
variable {X : Cx} {fr : Bool} {os os' ol : List Nat} {e c tg iter : Expr} {es : List Expr} {te : TE} {ta : TA} {tt : TT} {m : Ev → M D} {n : Ev → M Bool} {pos p' : Pos} {st : Stmt} {body : List Stmt} {mb : Ev → M Ctl} {y : Str}
/-- x = e, a slot that holds what may be shared -/
theorem pms_set (i : Nat) (hi : i ∉ os) (hN : X.N.Nodup) (hy : X.N[i]? = some y) (hl : Loc X.env.scope y) (h : PM X os e te m) (hs : swapsWith e (some (.Name y p')) pos.line X.env = pure false := by rfl)
    (hf : X.fn y = true ∨ X.env.scope.names.lookup y = some .local := by first | exact .inl rfl | exact .inr rfl | assumption) : PMS X fr os os ol (.Assign [.Name y p'] e pos) (cSet i m) := by
  obtain ⟨p, s⟩ := h
  refine ⟨_, ps_set hN hy hl p hs hf, fun C G σ H env d D I w => ?_⟩
  unfold cSet at w
  rw [Wp_bind] at w
  exact s C G σ H env d _ I (w.imp fun x d1 k v H' G' A r => k _ H' G' A.gm ((I.later A).set_sh hi r))
/-- x = e, a slot of one's own objects -/
theorem pms_setN (i : Nat) (hi : i ∈ os) (hN : X.N.Nodup) (hy : X.N[i]? = some y) (hl : Loc X.env.scope y) (h : PMF X os e te m) (hs : swapsWith e (some (.Name y p')) pos.line X.env = pure false := by rfl)
    (hf : X.fn y = true ∨ X.env.scope.names.lookup y = some .local := by first | exact .inl rfl | exact .inr rfl | assumption) : PMS X fr os os ol (.Assign [.Name y p'] e pos) (cSet i m) := by
  obtain ⟨p, s⟩ := h
  refine ⟨_, ps_set hN hy hl p hs hf, fun C G σ H env d D I w => ?_⟩
  unfold cSet at w
  rw [Wp_bind] at w
  exact s C G σ H env d _ I (w.imp fun x d1 k v H' G' A r => k _ H' G' A.gm (I.set_new A hi r))

/-! ### targets -/
def SimG (K : PySem.W.Frag) (mg : Str → Option Value) (C : Ct) (os tv : List Nat) (g : TG) (t : Ev → D → Option Ev) : Prop := ∀ G σ H env d v x e (Q : St → Hp → Prop), IM K mg C os env σ H G d → Rep K mg C.S G v x → t env x = some e →
  (∀ σ', IM K mg C os e σ' H G d → σ'.length = σ.length → (∀ j, j ∉ tv → σ'[j]? = σ[j]?) → Q σ' H) → g v σ H Q
def SimGs (K : PySem.W.Frag) (mg : Str → Option Value) (C : Ct) (os tv : List Nat) (g : TGs) (t : Ev → List D → Option Ev) : Prop := ∀ G σ H env d vs xs e (Q : St → Hp → Prop), IM K mg C os env σ H G d → Reps K mg C.S G vs xs → t env xs = some e →
  (∀ σ', IM K mg C os e σ' H G d → σ'.length = σ.length → (∀ j, j ∉ tv → σ'[j]? = σ[j]?) → Q σ' H) → g vs σ H Q
structure PMG (X : Cx) (os tv : List Nat) (e : Expr) (g : TG) (t : Ev → D → Option Ev) : Prop where
  p : PG X e g
  s : ∀ C, SimG X.K X.mg C os tv g t
structure PMGs (X : Cx) (os tv : List Nat) (es : List Expr) (g : TGs) (t : Ev → List D → Option Ev) : Prop where
  p : PGs X es g
  s : ∀ C, SimGs X.K X.mg C os tv g t
def gN (i : Nat) : Ev → D → Option Ev := fun env x => some (env.set i (some x))
def gT (t : Ev → List D → Option Ev) : Ev → D → Option Ev := fun env x => match x with
  | .tup xs => t env xs
  | _ => none
def gsNil : Ev → List D → Option Ev := fun env xs => match xs with
  | [] => some env
  | _ => none
def gsCons (t : Ev → D → Option Ev) (u : Ev → List D → Option Ev) : Ev → List D → Option Ev := fun env xs => match xs with
  | x :: r => match t env x with
    | some e => u e r
    | none => none
  | [] => none
theorem pmg_name (i : Nat) (hi : i ∉ os) (hN : X.N.Nodup) (hy : X.N[i]? = some y) (hl : Loc X.env.scope y) (hf : X.fn y = true ∨ X.env.scope.names.lookup y = some .local := by first | exact .inl rfl | exact .inr rfl | assumption) : PMG X os [i] (.Name y pos) (gName i) (gN i) := by
  refine ⟨pg_name hN hy hl hf, fun C G σ H env d v x e Q I r ht k => ?_⟩
  cases ht
  exact k _ (I.set_sh hi r) (by rw [List.length_set]) fun j hj => List.getElem?_set_ne (fun z => hj (by simp [z]))
theorem pmgs_nil : PMGs X os [] [] gNil gsNil := by
  refine ⟨pgs_nil, fun C G σ H env d vs xs e Q I r ht k => ?_⟩
  cases r with
  | nil =>
    cases ht
    exact ⟨rfl, k σ I rfl fun _ _ => rfl⟩
  | cons => cases ht
variable {tv tw : List Nat} {g1 : TG} {g2 : TGs} {t : Ev → D → Option Ev} {u : Ev → List D → Option Ev}
theorem pmgs_cons (h1 : PMG X os tv e g1 t) (h2 : PMGs X os tw es g2 u) (hs : (assignEach (e :: es) X.env).map (·.2) = assign e X.env :: (assignEach es X.env).map (·.2) := by rfl) : PMGs X os (tv ++ tw) (e :: es) (gCons g1 g2) (gsCons t u) := by
  obtain ⟨p1, s1⟩ := h1
  obtain ⟨p2, s2⟩ := h2
  refine ⟨pgs_cons p1 p2 hs, fun C G σ H env d vs xs e' Q I r ht k => ?_⟩
  cases r with
  | nil => cases ht
  | cons ra rb =>
    unfold gsCons at ht
    dsimp only at ht
    split at ht
    · rename_i e1 h1
      refine ⟨_, _, rfl, s1 C G σ H env d _ _ e1 _ I ra h1 fun σ1 I1 l1 k1 => ?_⟩
      exact s2 C G σ1 H e1 d _ _ e' _ I1 rb ht fun σ2 I2 l2 k2 => k σ2 I2 (l2.trans l1) fun j hj => by
        rw [k2 j fun z => hj (List.mem_append_right _ z), k1 j fun z => hj (List.mem_append_left _ z)]
    · cases ht
theorem pmg_tup {k n : Nat} (hc : X.calm = true) (h : PMGs X os tv es g2 u) (hlen : ∀ env xs e, u env xs = some e → xs.length = n) (hn : (assignEach es X.env).length = n := by rfl) (hst : (assignEach es X.env).findIdx? (·.1) = none := by rfl) :
    PMG X os tv (.Tuple es k pos) (gTup X.K n g2) (gT u) := by
  obtain ⟨p, s⟩ := h
  refine ⟨pg_tup hc p hn hst, fun C G σ H env d v x e Q I r ht kk => ?_⟩
  unfold gT at ht
  split at ht
  · cases r with
    | tup hq rs => exact ⟨_, _, rfl, I.sub.le.t hq, by rw [rs.length]; exact hlen _ _ _ ht, s C G σ H env d _ _ e Q I rs ht kk⟩
  · cases ht
theorem gs_len_nil : ∀ env xs e, gsNil env xs = some e → xs.length = 0 := fun env xs e h => by
  cases xs with
  | nil => rfl
  | cons => cases h
theorem gs_len_cons {k : Nat} (h : ∀ env xs e, u env xs = some e → xs.length = k) : ∀ env xs e, gsCons t u env xs = some e → xs.length = k + 1 := fun env xs e h1 => by
  cases xs with
  | nil => cases h1
  | cons x r =>
    unfold gsCons at h1
    dsimp only at h1
    split at h1
    · rw [List.length_cons, h _ _ _ h1]
    · cases h1

/-! ### what is walked -/
structure ItOk (K : PySem.W.Frag) (mg : Str → Option Value) (S : SA) (J : It) (G : Hp) (ds : List D) : Prop where
  go : ∀ G' H' d' i x, Le G G' → Sub S G' H' → StR S H' d' → ds[i]? = some x → J.go i H' ∧ ∀ v H'', J.yld i H' v H'' → ∃ G'', Aft S G' H' G'' H'' d' ∧ Rep K mg S G'' v x
  stop : ∀ G' H' d', Le G G' → Sub S G' H' → StR S H' d' → J.stop ds.length H'
def SimI (K : PySem.W.Frag) (mg : Str → Option Value) (C : Ct) (os : List Nat) (wi : TI) (mi : Ev → M (List D)) : Prop := ∀ G σ H env d (R : It → Hp → Prop), IM K mg C os env σ H G d →
  Wp (mi env d) (fun ds d' => ∀ J H' G', Aft C.S G H G' H' d' → ItOk K mg C.S J G' ds → R J H') → wi σ H R
structure PMI (X : Cx) (os : List Nat) (tg e : Expr) (wi : TI) (mi : Ev → M (List D)) : Prop where
  p : PI X tg e wi
  s : ∀ C, SimI X.K X.mg C os wi mi
def dSeq (x : D) : M (List D) := match x with
  | .lst ds => pure ds
  | .ro ds => pure ds
  | .tup ds => pure ds
  | _ => bad
def iSeq (K : PySem.W.Frag) (tl : TE) : TI := fun σ H R => tl σ H fun x H1 => ∃ a, x = .ref a ∧ (((∃ xs, SqL K H1 a xs) ∧ R (Itl K a) H1) ∨ ((∃ xs, SqT K H1 a xs) ∧ R (Itt K a) H1))
theorem pi_seq {l : Expr} {tl : TE} (hl : PE X l tl) : PI X tg l (iSeq X.K tl) := by
  refine ⟨fun pins s σ H R I h => ?_⟩
  refine thn (hl.run pins s σ H _ I h) fun v s1 ⟨x, H1, I1, r1, q1⟩ => ?_
  obtain ⟨a, ex, q⟩ := q1
  subst ex
  cases r1
  rcases q with ⟨⟨xs, hq⟩, q⟩ | ⟨⟨xs, hq⟩, q⟩
  · obtain ⟨its, rv, p, hz⟩ := I1.list hq
    refine wpAny_pyIter_list p.isList ?_
    refine ⟨s1.heap.objs.size, [s1.heap.objs.size], _, _, H1, rfl, I1.kept (t' := s1.toks) fun b o e => Heap.get?_push_of_some _ e, turn_list a _, ⟨_, Heap.get?_push_size _ rfl, rfl, rfl⟩, fun b hb => ?_, q⟩
    have e : b = s1.heap.objs.size := by simpa using hb
    subst e
    exact I1.fpOk (Nat.le_refl _) (I1.hok.fresh (Nat.le_refl _))
  · obtain ⟨its, rv, p, hz⟩ := I1.tuple hq
    refine wpAny_pyIter_tuple (show s1.heap.IsTuple a its.toArray from p) ?_
    refine ⟨s1.heap.objs.size, [s1.heap.objs.size], _, _, H1, rfl, I1.kept (t' := s1.toks) fun b o e => Heap.get?_push_of_some _ e, turn_tuple a _, ⟨_, Heap.get?_push_size _ rfl, rfl, rfl⟩, fun b hb => ?_, q⟩
    have e : b = s1.heap.objs.size := by simpa using hb
    subst e
    exact I1.fpOk (Nat.le_refl _) (I1.hok.fresh (Nat.le_refl _))
theorem itOk_l {K : PySem.W.Frag} {mg : Str → Option Value} {S : SA} {G : Hp} {a : Addr} {vs : List V} {ds : List D} (hq : SqL K G a vs) (r : Reps K mg S G vs ds) : ItOk K mg S (Itl K a) G ds where
  go := fun G' H' d' i x le sb st e => by
    obtain ⟨v, e1, rv⟩ := r.get e
    have q := (le.trans sb.le).l hq
    refine ⟨⟨vs, v, q, e1⟩, fun w H'' hy => ?_⟩
    obtain ⟨eh, k⟩ := hy
    subst eh
    have e2 := k vs q
    rw [e1] at e2
    cases e2
    exact ⟨G', Aft.refl st sb, rv.mono le⟩
  stop := fun G' H' d' le sb st => ⟨vs, (le.trans sb.le).l hq, Nat.le_of_eq r.length⟩
theorem itOk_t {K : PySem.W.Frag} {mg : Str → Option Value} {S : SA} {G : Hp} {a : Addr} {vs : List V} {ds : List D} (hq : SqT K G a vs) (r : Reps K mg S G vs ds) : ItOk K mg S (Itt K a) G ds where
  go := fun G' H' d' i x le sb st e => by
    obtain ⟨v, e1, rv⟩ := r.get e
    have q := (le.trans sb.le).t hq
    refine ⟨⟨vs, v, q, e1⟩, fun w H'' hy => ?_⟩
    obtain ⟨eh, k⟩ := hy
    subst eh
    have e2 := k vs q
    rw [e1] at e2
    cases e2
    exact ⟨G', Aft.refl st sb, rv.mono le⟩
  stop := fun G' H' d' le sb st => ⟨vs, (le.trans sb.le).t hq, Nat.le_of_eq r.length⟩
def iOf (m : Ev → M D) : Ev → M (List D) := fun env => m env >>= dSeq
theorem pmi_seq (h : PM X os e te m) : PMI X os tg e (iSeq X.K te) (iOf m) := by
  obtain ⟨p, s⟩ := h
  refine ⟨pi_seq p, fun C G σ H env d R I w => ?_⟩
  unfold iOf at w
  rw [Wp_bind] at w
  refine s C G σ H env d _ I (w.imp fun x d1 k v H1 G1 A r => ?_)
  unfold dSeq at k
  split at k
  · cases r with
    | lst hq rs => exact ⟨_, rfl, .inl ⟨⟨_, A.sub.le.l (.inl (.inl hq))⟩, k _ H1 G1 A (itOk_l (.inl (.inl hq)) rs)⟩⟩
  · cases r with
    | ro hq rs => exact ⟨_, rfl, .inl ⟨⟨_, A.sub.le.l hq⟩, k _ H1 G1 A (itOk_l hq rs)⟩⟩
  · cases r with
    | tup hq rs => exact ⟨_, rfl, .inr ⟨⟨_, A.sub.le.t hq⟩, k _ H1 G1 A (itOk_t hq rs)⟩⟩
  · exact k.elim
def intsD (lo : Int) (n : Nat) : List D := (List.range n).map fun (k : Nat) => D.int (lo + (k : Int))
theorem itOk_r {K : PySem.W.Frag} {mg : Str → Option Value} {S : SA} {G : Hp} {lo : Int} {n : Nat} : ItOk K mg S (Itr lo n) G (intsD lo n) where
  go := fun G' H' d' i x le sb st e => by
    unfold intsD at e
    rw [List.getElem?_map] at e
    have hi : i < n := by
      cases q : (List.range n)[i]? with
      | none => rw [q] at e; cases e
      | some z =>
        have := (List.getElem?_eq_some_iff.mp q).1
        rwa [List.length_range] at this
    rw [List.getElem?_range hi] at e
    cases e
    refine ⟨hi, fun v H'' hy => ?_⟩
    obtain ⟨e1, e2⟩ := hy
    subst e1
    subst e2
    exact ⟨G', Aft.refl st sb, .int _⟩
  stop := fun G' H' d' le sb st => by
    show n ≤ (intsD lo n).length
    unfold intsD
    rw [List.length_map, List.length_range]
    exact Nat.le_refl _
def dRange (xs : List D) : M (List D) := match xs with
  | [.int j] => guardB (decide (-(2 ^ 62) ≤ j ∧ j < 2 ^ 62)) (pure (intsD 0 j.toNat))
  | [.int i, .int j] => guardB (decide (-(2 ^ 62) ≤ i ∧ i < 2 ^ 62 ∧ -(2 ^ 62) ≤ j ∧ j < 2 ^ 62)) (pure (intsD i (j - i).toNat))
  | _ => bad
def iRange (ms : Ev → M (List D)) : Ev → M (List D) := fun env => ms env >>= dRange
theorem reps_int1 {K : PySem.W.Frag} {mg : Str → Option Value} {S : SA} {G : Hp} {vs : List V} {j : Int} (r : Reps K mg S G vs [.int j]) : vs = [.int j] := by
  cases r with
  | cons a b => cases a; cases b; rfl
theorem reps_int2 {K : PySem.W.Frag} {mg : Str → Option Value} {S : SA} {G : Hp} {vs : List V} {i j : Int} (r : Reps K mg S G vs [.int i, .int j]) : vs = [.int i, .int j] := by
  cases r with
  | cons a b => cases a; rw [reps_int1 b]
theorem pmi_range1 {a : Expr} {ms : Ev → M (List D)} (hg : Gl X "range") (hm : X.mg "range" = none) (ha : PMA X os [a] ta ms) (hs : starEach [a] X.env = [(false, eval a X.env)] := by rfl) (h1 : ∀ env d xs d', ms env d = .ok xs d' → xs.length = 1) : PMI X os tg (.Call (.Name "range" p') [a] [] pos) (iRng1 ta) (iRange ms) := by
  obtain ⟨pa, sa⟩ := ha
  refine ⟨pi_range1 hg hm pa hs, fun C G σ H env d R I w => ?_⟩
  unfold iRange at w
  rw [Wp_bind] at w
  have hl := h1 env d
  refine sa C G σ H env d _ I ?_
  cases hx : ms env d with
  | bad => rw [hx] at w; exact w.elim
  | ok xs d1 =>
    rw [hx] at w
    intro vs H1 G1 A r
    have k : Wp (dRange xs d1) _ := w
    have hl := hl xs d1 hx
    unfold dRange at k
    split at k
    · rw [Wp_guard] at k
      have b := of_decide_eq_true k.1
      exact ⟨_, reps_int1 r, b.1, b.2, k.2 _ H1 G1 A itOk_r⟩
    · cases hl
    · exact k.elim
theorem pmi_range2 {a b : Expr} {ms : Ev → M (List D)} (hg : Gl X "range") (hm : X.mg "range" = none) (ha : PMA X os [a, b] ta ms) (hs : starEach [a, b] X.env = [(false, eval a X.env), (false, eval b X.env)] := by rfl) (hs2 : starEach [b] X.env = [(false, eval b X.env)] := by rfl)
    (h1 : ∀ env d xs d', ms env d = .ok xs d' → xs.length = 2) : PMI X os tg (.Call (.Name "range" p') [a, b] [] pos) (iRng2 ta) (iRange ms) := by
  obtain ⟨pa, sa⟩ := ha
  refine ⟨pi_range2 hg hm pa hs hs2, fun C G σ H env d R I w => ?_⟩
  unfold iRange at w
  rw [Wp_bind] at w
  have hl := h1 env d
  refine sa C G σ H env d _ I ?_
  cases hx : ms env d with
  | bad => rw [hx] at w; exact w.elim
  | ok xs d1 =>
    rw [hx] at w
    intro vs H1 G1 A r
    have k : Wp (dRange xs d1) _ := w
    have hl := hl xs d1 hx
    unfold dRange at k
    split at k
    · cases hl
    · rw [Wp_guard] at k
      have b := of_decide_eq_true k.1
      exact ⟨_, _, reps_int2 r, b, k.2 _ H1 G1 A itOk_r⟩
    · exact k.elim
theorem aLen1 {m : Ev → M D} : ∀ env d xs d', aCons m aNil env d = .ok xs d' → xs.length = 1 := fun env d xs d' h => by
  have w : Wp (aCons m aNil env d) fun ys _ => ys.length = 1 := by
    unfold aCons aNil
    rw [Wp_bind]
    cases hx : m env d with
    | bad =>
      unfold aCons at h
      rw [bind_run, hx] at h
      cases h
    | ok y d1 => exact rfl
  rw [h] at w
  exact w
theorem aLen2 {m m2 : Ev → M D} : ∀ env d xs d', aCons m (aCons m2 aNil) env d = .ok xs d' → xs.length = 2 := fun env d xs d' h => by
  unfold aCons at h
  rw [bind_run] at h
  cases hx : m env d with
  | bad => rw [hx] at h; cases h
  | ok y d1 =>
    rw [hx] at h
    dsimp only at h
    rw [bind_run, bind_run] at h
    cases hy : m2 env d1 with
    | bad => rw [hy] at h; cases h
    | ok z d2 =>
      rw [hy] at h
      cases h
      rfl

/-! ### loops -/
def forGo (t : Ev → D → Option Ev) (b : Ev → M Ctl) : List D → Ev → M Ctl
  | [], env => pure (.nx env)
  | x :: xs, env => match t env x with
    | none => bad
    | some e => b e >>= fun c => match c with
      | .nx e' => forGo t b xs e'
      | .cont e' => forGo t b xs e'
      | .brk e' => pure (.nx e')
      | .ret y => pure (.ret y)
def cFor (mi : Ev → M (List D)) (t : Ev → D → Option Ev) (b : Ev → M Ctl) : Ev → M Ctl := fun env => mi env >>= fun ds => forGo t b ds env
theorem pms_for {mi : Ev → M (List D)} {wi : TI} {g : TG} {tv : List Nat} {t : Ev → D → Option Ev} (hp : PassesOwn (model X.prog X.w) X.A X.env X.xe) (hc : X.calm = true) (hi : PMI X os tg iter wi mi) (hg : PMG X os tv tg g t) (hb : PMSs X fr os os os body mb) (hs : ∀ x, foldedSetIterable iter X.env x = pure x := by intro _; rfl) :
    PMS X fr os os ol (.For tg iter body [] pos) (cFor mi t mb) := by
  obtain ⟨pi, si⟩ := hi
  obtain ⟨pg, sg⟩ := hg
  obtain ⟨tb, pb, sb⟩ := hb
  refine ⟨_, ps_for hp hc pi pg pb hs, fun C G σ H env d D I w => ?_⟩
  unfold cFor at w
  rw [Wp_bind] at w
  refine si C G σ H env d _ I (w.imp fun ds d1 w1 J H1 G1 A1 it => ?_)
  refine ⟨fun i m σ' H' => m = ds.length - i ∧ i ≤ ds.length ∧ ∃ G' env' d', Le G1 G' ∧ IM X.K X.mg C os env' σ' H' G' d' ∧ Wp (forGo t mb (ds.drop i) env' d') _,
    ⟨ds.length, rfl, Nat.zero_le _, G1, env, d1, Le.refl _, I.later A1, w1⟩, fun i m σ' H' hw => ?_⟩
  obtain ⟨em, hi, G', env', d', le, I', w'⟩ := hw
  subst em
  by_cases hlt : i < ds.length
  · rw [List.drop_eq_getElem_cons hlt] at w'
    obtain ⟨hgo, hy⟩ := it.go G' H' d' i ds[i] le I'.sub I'.st (List.getElem?_eq_getElem hlt)
    refine .inr ⟨hgo, fun σ2 H2 => ∃ G2 env2 d2, Le G1 G2 ∧ IM X.K X.mg C os env2 σ2 H2 G2 d2 ∧ Wp (forGo t mb (ds.drop (i + 1)) env2 d2) _, fun σ2 H2 q => ⟨ds.length - (i + 1), by omega, rfl, hlt, q⟩, fun v H2 yv => ?_⟩
    obtain ⟨G2, A2, rv⟩ := hy v H2 yv
    cases he1 : t env' ds[i] with
    | none => simp only [forGo, he1] at w'; exact w'.elim
    | some e1 =>
      simp only [forGo, he1] at w'
      refine sg C G2 σ' H2 env' d' v _ e1 _ (I'.later A2) rv he1 fun σ3 I3 _ _ => ?_
      rw [Wp_bind] at w'
      refine sb C G2 σ3 H2 e1 d' _ I3 (w'.imp fun c d3 k => ?_)
      cases c with
      | nx e => exact fun σ4 H4 G4 l4 I4 => ⟨G4, e, d3, (le.trans A2.gm).trans l4, I4, k⟩
      | cont e => exact fun σ4 H4 G4 l4 I4 => ⟨G4, e, d3, (le.trans A2.gm).trans l4, I4, k⟩
      | brk e => exact fun σ4 H4 G4 l4 I4 => k σ4 H4 G4 (A1.gm.trans ((le.trans A2.gm).trans l4)) I4
      | ret x => exact k
  · have e : i = ds.length := by omega
    subst e
    rw [List.drop_length] at w'
    exact .inl ⟨it.stop G' H' d' le I'.sub I'.st, w' σ' H' G' (A1.gm.trans le) I'⟩
def whGo (n : Ev → M Bool) (b : Ev → M Ctl) : Nat → Ev → M Ctl
  | 0, _ => bad
  | k + 1, env => n env >>= fun t => if t = true then b env >>= fun c => (match c with
      | .nx e' => whGo n b k e'
      | .cont e' => whGo n b k e'
      | .brk e' => pure (.nx e')
      | .ret y => pure (.ret y)) else pure (.nx env)
def fuel : Nat := 1000000000
def cWhile (n : Ev → M Bool) (b : Ev → M Ctl) : Ev → M Ctl := fun env => whGo n b fuel env
theorem pms_while (hp : PassesOwn (model X.prog X.w) X.A X.env X.xe) (hc : PMT X os c tt n) (hb : PMSs X fr os os os body mb) : PMS X fr os os ol (.While c body [] pos) (cWhile n mb) := by
  obtain ⟨pc, sc⟩ := hc
  obtain ⟨tb, pb, sb⟩ := hb
  refine ⟨_, ps_while hp pc pb, fun C G σ H env d D I w => ?_⟩
  unfold cWhile at w
  refine ⟨fun m σ' H' => ∃ G' env' d', Le G G' ∧ IM X.K X.mg C os env' σ' H' G' d' ∧ Wp (whGo n mb m env' d') _, ⟨fuel, G, env, d, Le.refl _, I, w⟩, fun m σ' H' hw => ?_⟩
  obtain ⟨G', env', d', le, I', w'⟩ := hw
  cases m with
  | zero => exact w'.elim
  | succ m =>
    unfold whGo at w'
    rw [Wp_bind] at w'
    refine sc C G' σ' H' env' d' _ I' (w'.imp fun t d1 w1 H1 G1 A1 => ?_)
    cases t with
    | true =>
      rw [if_pos rfl] at w1 ⊢
      rw [Wp_bind] at w1
      refine ⟨fun σ2 H2 => ∃ G2 env2 d2, Le G G2 ∧ IM X.K X.mg C os env2 σ2 H2 G2 d2 ∧ Wp (whGo n mb m env2 d2) _, fun σ2 H2 q => ⟨m, Nat.lt_succ_self m, q⟩, ?_⟩
      refine sb C G1 σ' H1 env' d1 _ (I'.later A1) (w1.imp fun c d3 k => ?_)
      cases c with
      | nx e => exact fun σ4 H4 G4 l4 I4 => ⟨G4, e, d3, (le.trans A1.gm).trans l4, I4, k⟩
      | cont e => exact fun σ4 H4 G4 l4 I4 => ⟨G4, e, d3, (le.trans A1.gm).trans l4, I4, k⟩
      | brk e => exact fun σ4 H4 G4 l4 I4 => k σ4 H4 G4 ((le.trans A1.gm).trans l4) I4
      | ret x => exact k
    | false =>
      rw [if_neg Bool.false_ne_true] at w1 ⊢
      exact w1 σ' H1 G1 (le.trans A1.gm) (I'.later A1)
theorem pms_brk : PMS X fr os os' os (.Break pos) (fun env => pure (.brk env)) := ⟨_, ps_break, fun C G σ H env d D I w => w σ H G (Le.refl _) I⟩
theorem pms_cont : PMS X fr os os' os (.Continue pos) (fun env => pure (.cont env)) := ⟨_, ps_continue, fun C G σ H env d D I w => w σ H G (Le.refl _) I⟩

/-! ### comprehensions -/
def wipeE (env : Ev) : List Nat → Ev
  | [] => env
  | v :: vs => (wipeE env vs).set v none
theorem IM.wipe {K : PySem.W.Frag} {mg : Str → Option Value} {C : Ct} {os : List Nat} {env : Ev} {σ : St} {G H : Hp} {d : Drw} (I : IM K mg C os env σ H G d) : ∀ vs : List Nat, IM K mg C os (wipeE env vs) (L2.wipe σ vs) H G d
  | [] => I
  | v :: vs => by
    have J := IM.wipe I vs
    unfold wipeE L2.wipe
    have key : ∀ {j : Nat} {y : D}, ((wipeE env vs).set v none)[j]? = some (some y) → (wipeE env vs)[j]? = some (some y) ∧ v ≠ j := fun {j y} e => by
      by_cases z : v = j
      · subst z
        have hl := (List.getElem?_eq_some_iff.mp e).1
        rw [List.length_set] at hl
        rw [List.getElem?_set_self hl] at e
        cases e
      · rw [List.getElem?_set_ne z] at e
        exact ⟨e, z⟩
    exact {
      aft := J.aft
      len := by rw [List.length_set, List.length_set]; exact J.len
      sh := fun j y hj e => by
        obtain ⟨e, z⟩ := key e
        rw [List.getElem?_set_ne z]
        exact J.sh j y hj e
      ow := fun j y hj e => by
        obtain ⟨e, z⟩ := key e
        rw [List.getElem?_set_ne z]
        exact J.ow j y hj e
      dis := fun j k y z a hj hk e1 e2 e3 e4 => by
        obtain ⟨e1, z1⟩ := key e1
        obtain ⟨e2, z2⟩ := key e2
        rw [List.getElem?_set_ne z1] at e3
        rw [List.getElem?_set_ne z2] at e4
        exact J.dis j k y z a hj hk e1 e2 e3 e4 }
theorem wipe_get {σ : St} : ∀ {vs : List Nat} {j : Nat}, j ∉ vs → (L2.wipe σ vs)[j]? = σ[j]?
  | [], _, _ => rfl
  | v :: vs, j, h => by
    unfold L2.wipe
    rw [List.getElem?_set_ne (fun z => h (by simp [z]))]
    exact wipe_get fun z => h (List.mem_cons_of_mem _ z)
theorem wipe_mem {σ : St} : ∀ {vs : List Nat} {j : Nat}, j ∈ vs → j < σ.length → (L2.wipe σ vs)[j]? = some none
  | v :: vs, j, h, hl => by
    unfold L2.wipe
    by_cases z : v = j
    · subst z
      exact List.getElem?_set_self (by rw [wipe_length]; exact hl)
    · rw [List.getElem?_set_ne z]
      exact wipe_mem ((List.mem_cons.mp h).resolve_left fun q => z q.symm) hl
theorem wipe_eq {σ σ2 : St} {vs tv : List Nat} (hl : σ2.length = (L2.wipe σ vs).length) (ht : ∀ j ∈ tv, j ∈ vs) (h : ∀ j, j ∉ tv → σ2[j]? = (L2.wipe σ vs)[j]?) : L2.wipe σ2 vs = L2.wipe σ vs := by
  apply List.ext_getElem?
  intro j
  by_cases z : j ∈ vs
  · by_cases q : j < σ2.length
    · rw [wipe_mem z q, wipe_mem z (by rw [hl, wipe_length] at q; exact q)]
    · rw [List.getElem?_eq_none (by rw [wipe_length]; omega), List.getElem?_eq_none (by rw [← hl]; omega)]
  · rw [wipe_get z, h j fun q => z (ht j q)]
def lcGo (e0 : Ev) (t : Ev → D → Option Ev) (n : Ev → M Bool) (me : Ev → M D) : List D → List D → M (List D)
  | [], acc => pure acc
  | x :: xs, acc => match t e0 x with
    | none => bad
    | some e => n e >>= fun b => if b = true then me e >>= fun y => guardB (decide (acc.length < sizeLine)) (lcGo e0 t n me xs (acc ++ [y])) else lcGo e0 t n me xs acc
def eLc (mi : Ev → M (List D)) (vs : List Nat) (t : Ev → D → Option Ev) (n : Ev → M Bool) (me : Ev → M D) : Ev → M D := fun env => mi env >>= fun ds => lcGo (wipeE env vs) t n me ds [] >>= fun ys => pure (.lst ys)
def nYes : Ev → M Bool := fun _ => pure true
/-- a clause's tests -/
structure PMTs (X : Cx) (os : List Nat) (es : List Expr) (tt : TT) (n : Ev → M Bool) : Prop where
  p : PTs X es tt
  s : ∀ C, SimT X.K X.mg C os tt n
theorem pmts_nil : PMTs X os [] tYes nYes := ⟨pts_nil, fun C G σ H env d Q I w => w H G (Aft.refl I.st I.sub)⟩
theorem pmts_one {c : Expr} {n : Ev → M Bool} (h : PMT X os c tt n) : PMTs X os [c] tt n := ⟨pts_one h.p, h.s⟩
theorem eLc_lst {mi : Ev → M (List D)} {vs : List Nat} {t : Ev → D → Option Ev} {n : Ev → M Bool} {me : Ev → M D} {env : Ev} {d d' : Drw} {x : D} (h : eLc mi vs t n me env d = .ok x d') : ∃ ds, x = .lst ds := by
  unfold eLc at h
  rw [bind_run] at h
  split at h
  · rw [bind_run] at h
    split at h
    · cases h; exact ⟨_, rfl⟩
    · cases h
  · cases h
theorem simF_lc {K : PySem.W.Frag} {mg : Str → Option Value} {C : Ct} {mi : Ev → M (List D)} {vs tv : List Nat} {t : Ev → D → Option Ev} {n : Ev → M Bool} {me : Ev → M D} {wi : TI} {g : TG} {tt : TT} {te : TE} (si : SimI K mg C os wi mi) (sg : SimG K mg C os tv g t) (st : SimT K mg C os tt n) (se : SimE K mg C os te me) (hv : ∀ j ∈ tv, j ∈ vs) :
    SimF K mg C os (tLc wi g tt te vs) (eLc mi vs t n me) := by
  intro G σ H env d Q I w
  unfold eLc at w
  rw [Wp_bind] at w
  refine si G σ H env d _ I (w.imp fun ds d1 w1 J H1 G1 A1 it => ?_)
  intro p hp
  have AN : Aft C.S G1 H1 G1 (upd H1 p (.lst [])) d1 := Aft.newF A1.st A1.sub hp
  rw [Wp_bind] at w1
  refine ⟨fun i m H' => m = ds.length - i ∧ i ≤ ds.length ∧ ∃ G' d' acc accD, Aft C.S G1 H1 G' H' d' ∧ G' p = none ∧ H' p = some (.lst acc) ∧ Reps K mg C.S G' acc accD ∧ Wp (lcGo (wipeE env vs) t n me (ds.drop i) accD d') _,
    ⟨ds.length, rfl, Nat.zero_le _, G1, d1, [], [], AN, A1.sub.free hp, upd_same, .nil, w1⟩, fun i m H' hw => ?_⟩
  obtain ⟨em, hi, G', d', acc, accD, A', gp, hpp, ra, w'⟩ := hw
  subst em
  have psub : ¬ inS C.S p := A1.st.off hp
  by_cases hlt : i < ds.length
  · rw [List.drop_eq_getElem_cons hlt] at w'
    obtain ⟨hgo, hy⟩ := it.go G' H' d' i ds[i] A'.gm A'.sub A'.st (List.getElem?_eq_getElem hlt)
    refine .inr ⟨hgo, fun H2 => ∃ G2 d2 acc accD, Aft C.S G1 H1 G2 H2 d2 ∧ G2 p = none ∧ H2 p = some (.lst acc) ∧ Reps K mg C.S G2 acc accD ∧ Wp (lcGo (wipeE env vs) t n me (ds.drop (i + 1)) accD d2) _, fun H2 q => ⟨ds.length - (i + 1), by omega, rfl, hlt, q⟩, fun v H2 yv => ?_⟩
    obtain ⟨G2, A2, rv⟩ := hy v H2 yv
    cases he1 : t (wipeE env vs) ds[i] with
    | none => simp only [lcGo, he1] at w'; exact w'.elim
    | some e1 =>
      simp only [lcGo, he1] at w'
      have I2 : IM K mg C os (wipeE env vs) (L2.wipe σ vs) H2 G2 d' := ((I.later (A1.trans (A'.trans A2))).wipe vs)
      refine sg G2 (L2.wipe σ vs) H2 (wipeE env vs) d' v _ e1 _ I2 rv he1 fun σ3 I3 l3 k3 => ⟨wipe_eq l3 hv k3, ?_⟩
      rw [Wp_bind] at w'
      have g2p : G2 p = none := A2.gn p (by rw [hpp]; exact fun z => nomatch z) gp
      have h2p : H2 p = some (.lst acc) := A2.hp p _ hpp psub
      refine st G2 σ3 H2 e1 d' _ I3 (w'.imp fun b d3 w3 H3 G3 A3 => ?_)
      have g3p : G3 p = none := A3.gn p (by rw [h2p]; exact fun z => nomatch z) g2p
      have h3p : H3 p = some (.lst acc) := A3.hp p _ h2p psub
      cases b with
      | true =>
        rw [if_pos rfl] at w3 ⊢
        rw [Wp_bind] at w3
        refine se G3 σ3 H3 e1 d3 _ (I3.later A3) (w3.imp fun y d4 w4 u H4 G4 A4 r4 => ?_)
        rw [Wp_guard] at w4
        have g4p : G4 p = none := A4.gn p (by rw [h3p]; exact fun z => nomatch z) g3p
        have h4p : H4 p = some (.lst acc) := A4.hp p _ h3p psub
        have A24 := A2.trans (A3.trans A4)
        have A14 := A'.trans A24
        refine ⟨acc, h4p, by rw [ra.length]; exact of_decide_eq_true w4.1, G4, d4, acc ++ [u], accD ++ [y], ?_, g4p, upd_same, (ra.mono A24.gm).append (.one r4), w4.2⟩
        exact {
          hp := fun b o e n => by
            have z : b ≠ p := fun z => by rw [z, hp] at e; cases e
            rw [upd_ne z]
            exact A14.hp b o e n
          gm := A14.gm
          gn := A14.gn
          st := A14.st.alt psub
          sub := fun b o e => by
            have z : b ≠ p := fun z => by rw [z, g4p] at e; cases e
            rw [upd_ne z]
            exact A14.sub b o e }
      | false =>
        rw [if_neg Bool.false_ne_true] at w3 ⊢
        exact ⟨G3, d3, acc, accD, A'.trans (A2.trans A3), g3p, h3p, ra.mono (A2.trans A3).gm, w3⟩
  · have e : i = ds.length := by omega
    subst e
    rw [List.drop_length] at w'
    refine .inl ⟨it.stop G' H' d' A'.gm A'.sub A'.st, ?_⟩
    have w2 := w'
    exact w2 _ _ _ (A1.trans A') (.lst (A1.free hp) gp hpp ra)
variable {elt : Expr} {ifs : List Expr} {scope : Scope} {mi : Ev → M (List D)} {tv : List Nat} {t : Ev → D → Option Ev} {me : Ev → M D} {wi : TI} {g : TG}
/-- [elt for tg in iter if ..]; own: the block's own names with their slots -/
theorem pmf_lc (own : List (Str × Nat)) (hc : X.calm = true) (hN : X.N.Nodup) (hi : PMI X os tg iter wi mi) (ok : BlkOk X.N X.env.scope scope own) (hv : ∀ j ∈ tv, j ∈ own.map (·.2))
    (hg : ∀ (s : Shared) (H : Hp) (C : Addr) (cl : List (Str × Addr)) (fp : List Addr), PMG (X.blk s H scope (compEnvC scope cl C X.env) fp) os tv tg g t)
    (ht : ∀ (s : Shared) (H : Hp) (C : Addr) (cl : List (Str × Addr)) (fp : List Addr), PMTs (X.blk s H scope (compEnvC scope cl C X.env) fp) os ifs tt n)
    (he : ∀ (s : Shared) (H : Hp) (C : Addr) (cl : List (Str × Addr)) (fp : List Addr), PM (X.blk s H scope (compEnvC scope cl C X.env) fp) os elt te me) (hs : ∀ x, foldedSetIterable iter X.env x = pure x := by intro _; rfl) :
    PMF X os (.ListComp elt [⟨tg, iter, ifs, 0⟩] scope pos) (tLc wi g tt te (own.map (·.2))) (eLc mi (own.map (·.2)) t n me) :=
  ⟨pe_lc hc hN hi.p ok (fun s H C cl fp => (hg s H C cl fp).p) (fun s H C cl fp => (ht s H C cl fp).p) (fun s H C cl fp => (he s H C cl fp).p) hs,
    fun C => simF_lc (hi.s C) ((hg X.s_0 X.H_0 0 [] []).s C) ((ht X.s_0 X.H_0 0 [] []).s C) ((he X.s_0 X.H_0 0 [] []).s C) hv⟩
/-- x = [..] on one line -/
theorem pms_setLc (own : List (Str × Nat)) (i : Nat) {y : Str} {py spos : Pos} (hi' : i ∈ os) (hc : X.calm = true) (hN : X.N.Nodup) (hy : X.N[i]? = some y) (hyl : X.env.scope.names.lookup y = some .local)
    (hsw : swapsWith (.ListComp elt [⟨tg, iter, ifs, 0⟩] scope pos) (some (.Name y py)) spos.line X.env = pure true) (hi : PMI X os tg iter wi mi) (ok : BlkOk X.N X.env.scope scope own) (hv : ∀ j ∈ tv, j ∈ own.map (·.2))
    (hg : ∀ (s : Shared) (H : Hp) (C : Addr) (cl : List (Str × Addr)) (fp : List Addr), PMG (X.blk s H scope (compEnvC scope cl C X.env) fp) os tv tg g t)
    (ht : ∀ (s : Shared) (H : Hp) (C : Addr) (cl : List (Str × Addr)) (fp : List Addr), PMTs (X.blk s H scope (compEnvC scope cl C X.env) fp) os ifs tt n)
    (he : ∀ (s : Shared) (H : Hp) (C : Addr) (cl : List (Str × Addr)) (fp : List Addr), PM (X.blk s H scope (compEnvC scope cl C X.env) fp) os elt te me) (hs : ∀ x, foldedSetIterable iter X.env x = pure x := by intro _; rfl) :
    PMS X fr os os ol (.Assign [.Name y py] (.ListComp elt [⟨tg, iter, ifs, 0⟩] scope pos) spos) (cSet i (eLc mi (own.map (·.2)) t n me)) := by
  refine ⟨_, ps_setLc (i := i) hc hN hy hyl hsw hi.p ok (fun s H C cl fp => (hg s H C cl fp).p) (fun s H C cl fp => (ht s H C cl fp).p) (fun s H C cl fp => (he s H C cl fp).p) hs, fun C G σ H env d D I w => ?_⟩
  unfold cSet at w
  rw [Wp_bind] at w
  exact simF_lc (hi.s C) ((hg X.s_0 X.H_0 0 [] []).s C) ((ht X.s_0 X.H_0 0 [] []).s C) ((he X.s_0 X.H_0 0 [] []).s C) hv G σ H env d _ I (w.imp fun x d1 k v H' G' A r => k _ H' G' A.gm (I.set_new A hi' r))
/-- .. the slot holds what may be shared -/
theorem pms_setLcS (own : List (Str × Nat)) (i : Nat) {y : Str} {py spos : Pos} (hi' : i ∉ os) (hc : X.calm = true) (hN : X.N.Nodup) (hy : X.N[i]? = some y) (hyl : X.env.scope.names.lookup y = some .local)
    (hsw : swapsWith (.ListComp elt [⟨tg, iter, ifs, 0⟩] scope pos) (some (.Name y py)) spos.line X.env = pure true) (hi : PMI X os tg iter wi mi) (ok : BlkOk X.N X.env.scope scope own) (hv : ∀ j ∈ tv, j ∈ own.map (·.2))
    (hg : ∀ (s : Shared) (H : Hp) (C : Addr) (cl : List (Str × Addr)) (fp : List Addr), PMG (X.blk s H scope (compEnvC scope cl C X.env) fp) os tv tg g t)
    (ht : ∀ (s : Shared) (H : Hp) (C : Addr) (cl : List (Str × Addr)) (fp : List Addr), PMTs (X.blk s H scope (compEnvC scope cl C X.env) fp) os ifs tt n)
    (he : ∀ (s : Shared) (H : Hp) (C : Addr) (cl : List (Str × Addr)) (fp : List Addr), PM (X.blk s H scope (compEnvC scope cl C X.env) fp) os elt te me) (hs : ∀ x, foldedSetIterable iter X.env x = pure x := by intro _; rfl) :
    PMS X fr os os ol (.Assign [.Name y py] (.ListComp elt [⟨tg, iter, ifs, 0⟩] scope pos) spos) (cSet i (eLc mi (own.map (·.2)) t n me)) := by
  refine ⟨_, ps_setLc (i := i) hc hN hy hyl hsw hi.p ok (fun s H C cl fp => (hg s H C cl fp).p) (fun s H C cl fp => (ht s H C cl fp).p) (fun s H C cl fp => (he s H C cl fp).p) hs, fun C G σ H env d D I w => ?_⟩
  unfold cSet at w
  rw [Wp_bind] at w
  exact (simF_lc (hi.s C) ((hg X.s_0 X.H_0 0 [] []).s C) ((ht X.s_0 X.H_0 0 [] []).s C) ((he X.s_0 X.H_0 0 [] []).s C) hv).eL (fun _ _ _ _ => eLc_lst) G σ H env d _ I (w.imp fun x d1 k v H' G' A r => k _ H' G' A.gm ((I.later A).set_sh hi' r))

/-! ### freezing, defs -/
theorem IM.freeze {K : PySem.W.Frag} {mg : Str → Option Value} {C : Ct} {os os' : List Nat} {env : Ev} {σ : St} {G H : Hp} {d : Drw} (i : Nat) (I : IM K mg C os env σ H G d) (h1 : ∀ j ∈ os', j ∈ os) (h2 : ∀ j ∈ os, j = i ∨ j ∈ os') (h3 : i ∉ os') :
    (∃ G', Le G G' ∧ IM K mg C os' env σ H G' d) ∨ ∃ a kvs, H a = some (.dK kvs) ∧ ∀ od, ∃ G', Le G G' ∧ IM K mg C os' env σ (upd H a (.frz od (.dK kvs))) G' d := by
  have other : ∀ {G' H' : Hp}, Le G G' → Aft C.S C.G C.H G' H' d → (∀ j x a, j ∈ os' → env[j]? = some (some x) → σ[j]? = some (some (.ref a)) → G' a = none ∧ H' a = H a) → (∀ x, i ∈ os → env[i]? = some (some x) → ∃ v, σ[i]? = some (some v) ∧ Rep K mg C.S G' v x) → IM K mg C os' env σ H' G' d := fun {G' H'} le A k ki => {
    aft := A
    len := I.len
    sh := fun j x hj e => by
      by_cases hm : j ∈ os
      · rcases h2 j hm with z | z
        · subst z; exact ki x hm e
        · exact absurd z hj
      · obtain ⟨v, e1, r⟩ := I.sh j x hm e
        exact ⟨v, e1, r.mono le⟩
    ow := fun j x hj e => by
      obtain ⟨v, e1, ov⟩ := I.ow j x (h1 j hj) e
      refine ⟨v, e1, ?_⟩
      cases ov with
      | non => exact .non
      | @ref a _ o =>
        refine .ref ⟨(k j x a hj e e1).1, o.n, o.h, ?_⟩
        have hh := (k j x a hj e e1).2
        have oo := o.o
        cases x with
        | lst ds => obtain ⟨vs, q1, q2⟩ := oo; exact ⟨vs, hh.trans q1, q2.mono le⟩
        | dic ds => obtain ⟨vs, q1, q2⟩ := oo; exact ⟨vs, hh.trans q1, q2.mono le⟩
        | _ => exact oo.elim
    dis := fun j k x y a hj hk => I.dis j k x y a (h1 j hj) (h1 k hk) }
  have same : ∀ j x a, j ∈ os' → env[j]? = some (some x) → σ[j]? = some (some (.ref a)) → G a = none ∧ H a = H a := fun j x a hj e e1 => by
    obtain ⟨b, e2, ov⟩ := I.ow j x (h1 j hj) e
    rw [e1] at e2; cases e2
    cases ov with
    | ref o => exact ⟨o.g, rfl⟩
  by_cases hm : i ∈ os
  · cases he : env[i]? with
    | none => exact .inl ⟨G, Le.refl G, other (Le.refl G) I.aft same fun x _ e => by rw [he] at e; cases e⟩
    | some q =>
      cases q with
      | none => exact .inl ⟨G, Le.refl G, other (Le.refl G) I.aft same fun x _ e => by rw [he] at e; cases e⟩
      | some y =>
        obtain ⟨v, e1, ov⟩ := I.ow i y hm he
        cases ov with
        | non => exact .inl ⟨G, Le.refl G, other (Le.refl G) I.aft same fun x _ e => by rw [he] at e; cases e; exact ⟨_, e1, .non⟩⟩
        | @ref a _ o =>
        have neq : ∀ (j : Nat) (x : D) (b : Addr), j ∈ os' → env[j]? = some (some x) → σ[j]? = some (some (.ref b)) → b ≠ a ∧ G b = none := fun j x b hj e e2 => by
          obtain ⟨b', e3, ov3⟩ := I.ow j x (h1 j hj) e
          rw [e2] at e3; cases e3
          cases ov3 with
          | ref o3 =>
          refine ⟨fun z => ?_, o3.g⟩
          subst z
          have := I.dis i j y x b hm (h1 j hj) he e e1 e2
          subst this
          exact h3 hj
        have oo := o.o
        cases y with
        | lst ds =>
          obtain ⟨vs, q1, q2⟩ := oo
          exact .inl ⟨_, Le.new o.g, other (Le.new o.g) (I.aft.freeze o.n o.g o.h q1) (fun j x b hj e e2 => by
            obtain ⟨z1, z2⟩ := neq j x b hj e e2
            exact ⟨by rw [upd_ne z1]; exact z2, rfl⟩) fun x _ e => by
            rw [he] at e; cases e
            exact ⟨_, e1, .lst upd_same (q2.mono (Le.new o.g))⟩⟩
        | dic ds =>
          obtain ⟨vs, q1, q2⟩ := oo
          exact .inr ⟨a, vs, q1, fun od => ⟨_, Le.new o.g, other (Le.new o.g) (I.aft.frzD o.n o.g o.h q1) (fun j x b hj e e2 => by
            obtain ⟨z1, z2⟩ := neq j x b hj e e2
            exact ⟨by rw [upd_ne z1]; exact z2, by rw [upd_ne z1]⟩) fun x _ e => by
            rw [he] at e; cases e
            exact ⟨_, e1, .dic upd_same (q2.mono (Le.new o.g))⟩⟩⟩
        | _ => exact oo.elim
  · exact .inl ⟨G, Le.refl G, other (Le.refl G) I.aft same fun x h _ => absurd h hm⟩
/-- from here on slot i holds what may be shared -/
theorem pmss_frz (i : Nat) {os1 o2 : List Nat} {sts : List Stmt} (h : PMSs X fr os1 o2 ol sts mb) (h1 : ∀ j ∈ os1, j ∈ os := by decide) (h2 : ∀ j ∈ os, j = i ∨ j ∈ os1 := by decide) (h3 : i ∉ os1 := by decide) : PMSs X fr os o2 ol sts mb := by
  obtain ⟨ts, p, s⟩ := h
  refine ⟨tFrzS ts, pss_frz p, fun C G σ H env d D I w => ?_⟩
  rcases I.freeze i h1 h2 h3 with ⟨G', le, I'⟩ | ⟨a, kvs, ha, k⟩
  · exact .inl (s C G' σ H env d D I' (w.imp fun c d1 k => CPost.le k le))
  · refine .inr ⟨a, kvs, ha, fun od => ?_⟩
    obtain ⟨G', le, I'⟩ := k od
    exact s C G' σ _ env d D I' (w.imp fun c d1 k => CPost.le k le)
/-- a statement that is not reached -/
def cNever : Ev → M Ctl := fun _ => bad
theorem pms_never : PMS X fr os os' ol st cNever := ⟨tNever, ps_never, fun C G σ H env d D I w => w.elim⟩
end
def defM (nl : Nat) (body : Ev → M Ctl) : List D → M D := fun ds => body (ds.map some ++ List.replicate (nl - ds.length) none) >>= fun c => match c with
  | .ret x => pure x
  | .nx _ => pure .non
  | _ => bad
section
variable {P : Program} {w : World} {K : PySem.W.Frag} {mg : Str → Option Value} {base : Heap}
theorem Reps.start {S : SA} {G : Hp} : ∀ {vs : List V} {ds : List D} (n i : Nat) (x : D), Reps K mg S G vs ds → (ds.map some ++ List.replicate n none)[i]? = some (some x) → ∃ v, (vs.map some ++ List.replicate n (none : Option V))[i]? = some (some v) ∧ Rep K mg S G v x
  | _, _, n, i, x, .nil, e => by
    rw [List.map_nil, List.nil_append] at e
    rw [List.getElem?_replicate] at e
    split at e
    · cases e
    · cases e
  | _, _, n, 0, x, .cons r t, e => by
    cases e
    exact ⟨_, rfl, r⟩
  | _, _, n, i + 1, x, .cons r t, e => by
    obtain ⟨v, h1, h2⟩ := Reps.start n i x t (by simpa using e)
    exact ⟨v, by simpa using h1, h2⟩
theorem IM.start {C : Ct} {os : List Nat} {vs : List V} {ds : List D} {d : Drw} {N : List Str} (st : StR C.S C.H d) (sub : Sub C.S C.G C.H) (r : Reps K mg C.S C.G vs ds) (ho : ∀ i ∈ os, ds.length ≤ i) :
    IM K mg C os (ds.map some ++ List.replicate (N.length - ds.length) none) (L2.start N vs) C.H C.G d where
  aft := Aft.refl st sub
  len := by unfold L2.start; rw [List.length_append, List.length_append, List.length_map, List.length_map, List.length_replicate, List.length_replicate, r.length]
  sh := fun i x _ e => by
    unfold L2.start
    rw [r.length]
    exact Reps.start _ i x r e
  ow := fun i x hi e => by
    have := ho i hi
    rw [List.getElem?_append_right (by rw [List.length_map]; exact this), List.getElem?_replicate] at e
    split at e <;> cases e
  dis := fun i j x y a hi hj e => by
    have := ho i hi
    rw [List.getElem?_append_right (by rw [List.length_map]; exact this), List.getElem?_replicate] at e
    split at e <;> cases e
theorem ok_defM {x qual : Str} {st : Stmt} {f : Addr} {fd : FuncData} {N ps : List Str} {k n : Nat} {os o2 ol : List Nat} {body : Ev → M Ctl} (F : Fun K x qual st f fd) (S : FnScope N ps (defScope st)) (hn : ps.length = n) (ho : ∀ i ∈ os, n ≤ i)
    (hbody : ∀ (cdv : Value) (A : Around) (outer : List Env) (s : Shared) (H : Hp) (E : XK), Room k (A.deeper (envOfC qual (defScope st) s.heap.objs.size f cdv)) →
      PMSs (cxOf CX0 P w K mg base N qual (defScope st) f cdv A outer s H E).nox false os o2 ol (defBody st) body) : FnOk P w K mg base CX0 (k + 1) f fd ps (spM K mg n (defM N.length body)) := by
  refine F.ok S (fun vs H Q E h => h.1.trans hn.symm) fun cdv A outer s H vs Q E hr h => ?_
  obtain ⟨hl, Sa, G, ds, d, st', sub, r, w⟩ := h
  obtain ⟨ts, p, sm⟩ := hbody cdv A outer s H E hr
  refine ⟨ts, p, sm ⟨Sa, G, H⟩ G (start N vs) H _ d _ (IM.start (C := ⟨Sa, G, H⟩) st' sub r fun i hi => by rw [← r.length, hl]; exact ho i hi) ?_⟩
  unfold defM at w
  rw [Wp_bind] at w
  exact w.imp fun c d1 k1 => by
    cases c with
    | nx e => exact fun σ' H' G' _ I' => k1 .non H' G' I'.aft .non
    | ret x => exact fun v H' G' A' r' => k1 v H' G' A' r'
    | brk e => exact k1.elim
    | cont e => exact k1.elim
theorem ok_defN {x qual : Str} {st : Stmt} {f : Addr} {fd : FuncData} {N ps : List Str} {k n : Nat} {os o2 ol : List Nat} {body : Ev → M Ctl} (F : Fun K x qual st f fd) (S : FnScope N ps (defScope st)) (hn : ps.length = n) (ho : ∀ i ∈ os, n ≤ i)
    (hnx : ∀ env d e d', body env d ≠ .ok (.nx e) d')
    (hbody : ∀ (cdv : Value) (A : Around) (outer : List Env) (s : Shared) (H : Hp) (E : XK), Room k (A.deeper (envOfC qual (defScope st) s.heap.objs.size f cdv)) →
      PMSs (cxOf CX0 P w K mg base N qual (defScope st) f cdv A outer s H E).nox true os o2 ol (defBody st) body) : FnOk P w K mg base CX0 (k + 1) f fd ps (spN K mg n (defM N.length body)) := by
  refine F.ok S (fun vs H Q E h => h.1.trans hn.symm) fun cdv A outer s H vs Q E hr h => ?_
  obtain ⟨hl, Sa, G, ds, d, st', sub, r, w⟩ := h
  obtain ⟨ts, p, sm⟩ := hbody cdv A outer s H E hr
  refine ⟨ts, p, sm ⟨Sa, G, H⟩ G (start N vs) H _ d _ (IM.start (C := ⟨Sa, G, H⟩) st' sub r fun i hi => by rw [← r.length, hl]; exact ho i hi) ?_⟩
  unfold defM at w
  rw [Wp_bind] at w
  have hb := hnx (ds.map some ++ List.replicate (N.length - ds.length) none) d
  cases hx : body (ds.map some ++ List.replicate (N.length - ds.length) none) d with
  | bad => rw [hx] at w; exact w.elim
  | ok c d1 =>
    rw [hx] at w hb
    cases c with
    | nx e => exact absurd rfl (hb e d1)
    | ret x => exact fun v H' G' A' r' => w v H' G' A' r'
    | brk e => exact w.elim
    | cont e => exact w.elim
end
end Mir
end
section
set_option Elab.async false
set_option linter.all false
set_option maxRecDepth 100000
set_option maxHeartbeats 2000000
/-! Mir, part E: built-ins, subscripts, slices, what changes one's own objects. -/
namespace Mir
open PySem PySem.Spec PyProof.Rows L2

/-! ### data that == and repr see -/
mutual
def toPy : D → Option PyData
  | .non => some .none
  | .bl b => some (.bool b)
  | .int i => some (.int i)
  | .str x => some (.str x)
  | .lst xs => (toPys xs).map .list
  | .ro xs => (toPys xs).map .list
  | .tup xs => (toPys xs).map .tuple
  | .dic _ => none
  | .obj _ _ => none
  | .st => none
  | .ln _ => none
  | .plt _ => none
def toPys : List D → Option (List PyData)
  | [] => some []
  | x :: xs => match toPy x, toPys xs with
    | some p, some ps => some (p :: ps)
    | _, _ => none
end
section
variable {K : PySem.W.Frag} {mg : Str → Option Value} {S : SA} {G H : Hp}
mutual
theorem Rep.dp (le : Le G H) : ∀ {v : V} {d : D} {p : PyData}, Rep K mg S G v d → toPy d = some p → Dp K H v p
  | _, _, _, .non, e => by cases e; exact .non
  | _, _, _, .bl b, e => by cases e; exact .bl b
  | _, _, _, .int i, e => by cases e; exact .int i
  | _, _, _, .str x, e => by cases e; exact .str x
  | _, _, _, .lst h r, e => by
    rw [toPy, Option.map_eq_some_iff] at e
    obtain ⟨ps, e1, e2⟩ := e
    subst e2
    exact .lst (.inl (.inl (le _ _ h))) (Reps.dp le r e1)
  | _, _, _, .ro h r, e => by
    rw [toPy, Option.map_eq_some_iff] at e
    obtain ⟨ps, e1, e2⟩ := e
    subst e2
    exact .lst (le.l h) (Reps.dp le r e1)
  | _, _, _, .tup h r, e => by
    rw [toPy, Option.map_eq_some_iff] at e
    obtain ⟨ps, e1, e2⟩ := e
    subst e2
    exact .tup (le.t h) (Reps.dp le r e1)
  | _, _, _, .dic _ _, e => by cases e
  | _, _, _, .obj _ _ _, e => by cases e
  | _, _, _, .st, e => by cases e
  | _, _, _, .ln _ _, e => by cases e
  | _, _, _, .plt _ _ _, e => by cases e
theorem Reps.dp (le : Le G H) : ∀ {vs : List V} {ds : List D} {ps : List PyData}, Reps K mg S G vs ds → toPys ds = some ps → DpAll K H vs ps
  | _, _, _, .nil, e => by cases e; exact .nil
  | _, _, _, .cons a b, e => by
    rw [toPys] at e
    split at e
    · rename_i p ps e1 e2
      cases e
      exact .cons (Rep.dp le a e1) (Reps.dp le b e2)
    · cases e
end
theorem RepT.dp {v : V} {d : D} {p : PyData} (sb : Sub S G H) (h : RepT K mg S G H v d) (e : toPy d = some p) : Dp K H v p := by
  cases h with
  | of r => exact r.dp sb.le e
  | lst n h r =>
    rw [toPy, Option.map_eq_some_iff] at e
    obtain ⟨ps, e1, e2⟩ := e
    subst e2
    exact .lst (.inl (.inl h)) (r.dp sb.le e1)
  | dic => cases e
end
def dEqP (neg : Bool) (x y : D) : M D := match toPy x, toPy y with
  | some p, some q => guardB (SeqAt.shaped p && SeqAt.shaped q) (pure (.bl (if neg = true then !PyData.eqv p q else PyData.eqv p q)))
  | _, _ => bad
theorem dEqP_some {neg : Bool} {x y : D} {d : Drw} {P : D → Drw → Prop} (w : Wp (dEqP neg x y d) P) : ∃ p q, toPy x = some p ∧ toPy y = some q ∧ SeqAt.shaped p = true ∧ SeqAt.shaped q = true ∧ P (.bl (if neg = true then !PyData.eqv p q else PyData.eqv p q)) d := by
  cases e1 : toPy x with
  | none => simp only [dEqP, e1] at w; exact w.elim
  | some p =>
    cases e2 : toPy y with
    | none => simp only [dEqP, e1, e2] at w; exact w.elim
    | some q =>
      simp only [dEqP, e1, e2] at w
      rw [Wp_guard, Bool.and_eq_true] at w
      exact ⟨p, q, rfl, rfl, w.1.1, w.1.2, w.2⟩
/-- two texts, else data -/
def dEqB (neg : Bool) (x y : D) : M D := match x, y with
  | .str a, .str b => pure (.bl (if neg = true then !decide (a = b) else decide (a = b)))
  | x, y => dEqP neg x y
abbrev dEq := dEqB false
abbrev dNe := dEqB true
theorem dEqB_some {neg : Bool} {x y : D} {d : Drw} {P : D → Drw → Prop} (w : Wp (dEqB neg x y d) P) :
    (∃ a b, x = .str a ∧ y = .str b ∧ P (.bl (if neg = true then !decide (a = b) else decide (a = b))) d) ∨ ∃ p q, toPy x = some p ∧ toPy y = some q ∧ SeqAt.shaped p = true ∧ SeqAt.shaped q = true ∧ P (.bl (if neg = true then !PyData.eqv p q else PyData.eqv p q)) d := by
  by_cases h : ∃ a b, x = .str a ∧ y = .str b
  · obtain ⟨a, b, rfl, rfl⟩ := h
    exact .inl ⟨a, b, rfl, rfl, w⟩
  · refine .inr (dEqP_some ?_)
    cases x <;> first | exact w | (cases y <;> first | exact w | exact absurd ⟨_, _, rfl, rfl⟩ h)
def rEqX (K : PySem.W.Frag) : R2 := fun x y H Q => rEq x y H Q ∨ rEqD K x y H Q
def rNeX (K : PySem.W.Frag) : R2 := fun x y H Q => rNe x y H Q ∨ rNeD K x y H Q
theorem op_eqX {X : Cx} (hu : X.A.units + 64 < cLine) : OpR X (compareOp .Eq) (rEqX X.K) := by
  intro pins s σ H x y v u Q I rx ry h
  rcases h with h | h
  · exact op_eq pins s σ H x y v u Q I rx ry h
  · exact op_eqD hu pins s σ H x y v u Q I rx ry h
theorem op_neX {X : Cx} (hu : X.A.units + 64 < cLine) : OpR X (compareOp .NotEq) (rNeX X.K) := by
  intro pins s σ H x y v u Q I rx ry h
  rcases h with h | h
  · exact op_ne pins s σ H x y v u Q I rx ry h
  · exact op_neD hu pins s σ H x y v u Q I rx ry h
theorem RepT.str_of {K : PySem.W.Frag} {mg : Str → Option Value} {S : SA} {G H : Hp} {v : V} {z : Str} (h : RepT K mg S G H v (.str z)) : v = .str z := by
  cases h with
  | of r => cases r; rfl
theorem dec_strV {i j : Str} : decide (V.str i = V.str j) = decide (i = j) := by
  rw [Bool.eq_iff_iff]
  simp
section
variable {X : Cx} {os : List Nat} {e a b c : Expr} {es : List Expr} {te ta tb tc : TE} {tas : TA} {m ma mb mc : Ev → M D} {ms : Ev → M (List D)} {pos p' : Pos} {k : Nat} {x : Str}
theorem pm_eq (hr : Room k X.A) (ha : PMB X os a ta ma) (hb : PMB X os b tb mb) : PMC X os (.Compare a [.Eq] [b] pos) (tOp (rEqX X.K) ta tb) (eBin dEq ma mb) :=
  pm_cmp (op_eqX (by have := hr.un; omega)) (fun S G H d x y dx dy Q st sb rx ry w => by
    rcases dEqB_some w with ⟨p, q, e1, e2, kk⟩ | ⟨p, q, e1, e2, s1, s2, kk⟩
    · subst e1; subst e2
      cases rx.str_of; cases ry.str_of
      refine .inl ⟨rfl, ?_⟩
      rw [dec_strV]
      exact kk _ _ _ (Aft.refl st sb) (.bl _)
    · exact .inr ⟨p, q, rx.dp sb e1, ry.dp sb e2, s1, s2, kk _ _ _ (Aft.refl st sb) (.bl _)⟩) ha hb (nomark _)
theorem pm_ne (hr : Room k X.A) (ha : PMB X os a ta ma) (hb : PMB X os b tb mb) : PMC X os (.Compare a [.NotEq] [b] pos) (tOp (rNeX X.K) ta tb) (eBin dNe ma mb) :=
  pm_cmp (op_neX (by have := hr.un; omega)) (fun S G H d x y dx dy Q st sb rx ry w => by
    rcases dEqB_some w with ⟨p, q, e1, e2, kk⟩ | ⟨p, q, e1, e2, s1, s2, kk⟩
    · subst e1; subst e2
      cases rx.str_of; cases ry.str_of
      refine .inl ⟨rfl, ?_⟩
      rw [dec_strV]
      exact kk _ _ _ (Aft.refl st sb) (.bl _)
    · exact .inr ⟨p, q, rx.dp sb e1, ry.dp sb e2, s1, s2, kk _ _ _ (Aft.refl st sb) (.bl _)⟩) ha hb (nomark _)
def isNon : D → Bool
  | .non => true
  | _ => false
theorem RepT.isNon {K : PySem.W.Frag} {mg : Str → Option Value} {S : SA} {G H : Hp} {v : V} {d : D} (h : RepT K mg S G H v d) : decide (v = .non) = Mir.isNon d := by
  cases h with
  | of r => cases r <;> rfl
  | lst => rfl
  | dic => rfl
def dIsN (neg : Bool) (x y : D) : M D := match y with
  | .non => pure (.bl (if neg = true then !isNon x else isNon x))
  | _ => bad
theorem pm_isN (ha : PMB X os a ta ma) (hb : PMB X os b tb mb) : PMC X os (.Compare a [.Is] [b] pos) (tOp (fun x y H Q => y = .non ∧ Q (.bl (decide (x = .non))) H) ta tb) (eBin (dIsN false) ma mb) :=
  pm_cmp op_isN (fun S G H d x y dx dy Q st sb rx ry w => by
    unfold dIsN at w
    split at w
    · refine ⟨by cases ry with | of r => cases r; rfl, ?_⟩
      rw [rx.isNon]
      exact w _ _ _ (Aft.refl st sb) (.bl _)
    · exact w.elim) ha hb (nomark _)
theorem pm_notN (ha : PMB X os a ta ma) (hb : PMB X os b tb mb) : PMC X os (.Compare a [.IsNot] [b] pos) (tOp (fun x y H Q => y = .non ∧ Q (.bl (!decide (x = .non))) H) ta tb) (eBin (dIsN true) ma mb) :=
  pm_cmp op_notN (fun S G H d x y dx dy Q st sb rx ry w => by
    unfold dIsN at w
    split at w
    · refine ⟨by cases ry with | of r => cases r; rfl, ?_⟩
      rw [rx.isNon]
      exact w _ _ _ (Aft.refl st sb) (.bl _)
    · exact w.elim) ha hb (nomark _)
/-- is True, is False -/
def dIsB (x y : D) : M D := match x, y with
  | .bl i, .bl j => pure (.bl (decide (i = j)))
  | _, _ => bad
theorem pm_isB (ha : PMB X os a ta ma) (hb : PMB X os b tb mb) : PMC X os (.Compare a [.Is] [b] pos) (tOp rIsB ta tb) (eBin dIsB ma mb) :=
  pm_cmp op_isBl (fun S G H d x y dx dy Q st sb rx ry w => by
    unfold dIsB at w
    split at w
    · exact ⟨_, _, rx.bl, ry.bl, w _ _ _ (Aft.refl st sb) (.bl _)⟩
    · exact w.elim) ha hb (nomark _)

/-! ### + -/
def dAdd : D → D → M D
  | .int i, .int j => pure (.int (i + j))
  | .str i, .str j => guardB (decide (i.length + j.length ≤ sizeLine)) (pure (.str (i ++ j)))
  | .lst i, .lst j => guardB (decide (i.length + j.length ≤ sizeLine)) (pure (.lst (i ++ j)))
  | .tup i, .tup j => guardB (!i.isEmpty && (!j.isEmpty && decide (i.length + j.length ≤ sizeLine))) (pure (.tup (i ++ j)))
  | _, _ => bad
def rAddAll (K : PySem.W.Frag) : R2 := fun x y H Q => rI0 (fun i j => .int (i + j)) x y H Q ∨ (∃ i j, x = .str i ∧ y = .str j ∧ i.length + j.length ≤ sizeLine ∧ Q (.str (i ++ j)) H) ∨ rCat x y H Q ∨ rCatT K x y H Q
theorem simR_add {K : PySem.W.Frag} {mg : Str → Option Value} : SimR K mg (rAddAll K) dAdd := by
  intro S G H d x y dx dy Q st sb rx ry w
  unfold dAdd at w
  split at w
  · exact .inl ⟨_, _, rx.int, ry.int, w _ _ _ (Aft.refl st sb) (.int _)⟩
  · rw [Wp_guard] at w
    exact .inr (.inl ⟨_, _, rx.str, ry.str, of_decide_eq_true w.1, w.2 _ _ _ (Aft.refl st sb) (.str _)⟩)
  · rw [Wp_guard] at w
    obtain ⟨a, vs, e1, h1, r1, n1⟩ := rx.lst' sb
    obtain ⟨b, ws, e2, h2, r2, n2⟩ := ry.lst' sb
    have hl := of_decide_eq_true w.1
    exact .inr (.inr (.inl ⟨a, b, vs, ws, e1, e2, h1, h2, by rw [r1.length, r2.length]; exact hl, fun p hp => w.2 _ _ _ (Aft.new st sb hp) (.lst upd_same ((r1.append r2).mono (Le.new (sb.free hp))))⟩))
  · rw [Wp_guard] at w
    obtain ⟨a, vs, e1, h1, r1⟩ := rx.tup' sb
    obtain ⟨b, ws, e2, h2, r2⟩ := ry.tup' sb
    have w1 := w.1
    rw [Bool.and_eq_true, Bool.and_eq_true] at w1
    obtain ⟨z1, z2, z3⟩ := w1
    have hl := of_decide_eq_true z3
    have y1 : vs ≠ [] := fun z => by subst z; cases r1; cases z1
    have y2 : ws ≠ [] := fun z => by subst z; cases r2; cases z2
    exact .inr (.inr (.inr ⟨a, b, vs, ws, e1, e2, sb.le.t h1, sb.le.t h2, y1, by rw [r1.length, r2.length]; exact hl, fun z => absurd z y2, fun _ p hp => w.2 _ _ _ (Aft.new st sb hp) (.tup (.inl (.inl upd_same)) ((r1.append r2).mono (Le.new (sb.free hp))))⟩))
  · exact w.elim
theorem pm_add (ha : PMB X os a ta ma) (hb : PMB X os b tb mb) : PM X os (.BinOp a .Add b pos) (tOp (rAddAll X.K) ta tb) (eBin dAdd ma mb) :=
  pm_bin (opr_or op_add (opr_or op_add_str (opr_or op_cat op_catT))) simR_add ha hb
def dCat : D → D → M D
  | .lst i, .lst j => guardB (decide (i.length + j.length ≤ sizeLine)) (pure (.lst (i ++ j)))
  | _, _ => bad
/-- xs + ys, lists, as a new one -/
theorem pmf_cat (ha : PMB X os a ta ma) (hb : PMB X os b tb mb) : PMF X os (.BinOp a .Add b pos) (tOp rCat ta tb) (eBin dCat ma mb) :=
  pmf_bin op_cat (fun S G H d x y dx dy Q st sb rx ry w => by
    unfold dCat at w
    split at w
    · rw [Wp_guard] at w
      obtain ⟨a, vs, e1, h1, r1, n1⟩ := rx.lst' sb
      obtain ⟨b, ws, e2, h2, r2, n2⟩ := ry.lst' sb
      have hl := of_decide_eq_true w.1
      exact ⟨a, b, vs, ws, e1, e2, h1, h2, by rw [r1.length, r2.length]; exact hl, fun p hp => w.2 _ _ _ (Aft.newF st sb hp) (.lst hp (sb.free hp) upd_same (r1.append r2))⟩
    · exact w.elim) ha hb

/-! ### calls of built-ins with one thing, two -/
def SimC (K : PySem.W.Frag) (mg : Str → Option Value) (r : List V → Hp → VK → Prop) (g : D → M D) : Prop := ∀ S G H d x dx Q, StR S H d → Sub S G H → RepT K mg S G H x dx →
  Wp (g dx d) (fun z d' => ∀ v H' G', Aft S G H G' H' d' → Rep K mg S G' v z → Q v H') → r [x] H Q
def SimCF (K : PySem.W.Frag) (mg : Str → Option Value) (r : List V → Hp → VK → Prop) (g : D → M D) : Prop := ∀ S G H d x dx Q, StR S H d → Sub S G H → RepT K mg S G H x dx →
  Wp (g dx d) (fun z d' => ∀ v H' G', Aft S G H G' H' d' → RepN K mg S G H G' H' v z → Q v H') → r [x] H Q
def eUn (g : D → M D) (m : Ev → M D) : Ev → M D := fun env => m env >>= g
def tCB1 (r : List V → Hp → VK → Prop) (te : TE) : TE := tCB r (tCons te tNil)
theorem simE_c1 {K : PySem.W.Frag} {mg : Str → Option Value} {C : Ct} {r : List V → Hp → VK → Prop} {g : D → M D} (s : SimB K mg C os te m) (hs : SimC K mg r g) : SimE K mg C os (tCB r (tCons te tNil)) (eUn g m) := by
  intro G σ H env d Q I w
  unfold eUn at w
  rw [Wp_bind] at w
  exact s G σ H env d _ I (w.imp fun x d1 w1 v1 H1 G1 A1 r1 => hs C.S G1 H1 d1 v1 x Q A1.st A1.sub r1 (w1.imp fun z d2 kk v H' G' A2 r2 => kk v H' G' (A1.trans A2) r2))
theorem simF_c1 {K : PySem.W.Frag} {mg : Str → Option Value} {C : Ct} {r : List V → Hp → VK → Prop} {g : D → M D} (s : SimB K mg C os te m) (hs : SimCF K mg r g) : SimF K mg C os (tCB r (tCons te tNil)) (eUn g m) := by
  intro G σ H env d Q I w
  unfold eUn at w
  rw [Wp_bind] at w
  exact s G σ H env d _ I (w.imp fun x d1 w1 v1 H1 G1 A1 r1 => hs C.S G1 H1 d1 v1 x Q A1.st A1.sub r1 (w1.imp fun z d2 kk v H' G' A2 r2 => kk v H' G' (A1.trans A2) (RepN.pull A1 r2)))
theorem callr_or {f : Value} {r1 r2 : List V → Hp → VK → Prop} (h1 : CallR X f r1) (h2 : CallR X f r2) : CallR X f (fun xs H Q => r1 xs H Q ∨ r2 xs H Q) := fun pins s σ H xs us Q I rv h =>
  h.elim (h1 pins s σ H xs us Q I rv) (h2 pins s σ H xs us Q I rv)
theorem pm_call1 {id : String} {r : List V → Hp → VK → Prop} {g : D → M D} (hc : CallR X (.builtin id) r) (hs : SimC X.K X.mg r g) (hg : Gl X x) (hm : X.mg x = none) (hv : bootBuiltins x = some (.builtin id)) (ha : PMB X os e te m) (hn : x ≠ "__name__" := by decide) (hdb : (x == ("__debug__" : Str)) = false := by decide)
    (he : starEach [e] X.env = (false, eval e X.env) :: starEach [] X.env := by rfl) (hpl : (backTo pos (starEach [] X.env)).any (·.1) = false := by rfl) : PM X os (.Call (.Name x p') [e] [] pos) (tCB r (tCons te tNil)) (eUn g m) :=
  ⟨pe_callB hc hg hm hv (pa_cons ha.p pa_nil he) hn hdb he hpl, fun C => simE_c1 (ha.s C) hs⟩
theorem pm_callT1 {T : String} {r : List V → Hp → VK → Prop} {g : D → M D} (hc : CallR X (.type T) r) (hs : SimC X.K X.mg r g) (hg : Gl X x) (hm : X.mg x = none) (hv : bootBuiltins x = some (.type T)) (ha : PMB X os e te m) (hn : x ≠ "__name__" := by decide) (hdb : (x == ("__debug__" : Str)) = false := by decide)
    (he : starEach [e] X.env = (false, eval e X.env) :: starEach [] X.env := by rfl) (hpl : (backTo pos (starEach [] X.env)).any (·.1) = false := by rfl) : PM X os (.Call (.Name x p') [e] [] pos) (tCB r (tCons te tNil)) (eUn g m) :=
  ⟨pe_callTy hc hg hm hv (pa_cons ha.p pa_nil he) hn hdb he hpl, fun C => simE_c1 (ha.s C) hs⟩
theorem pmf_callT1 {T : String} {r : List V → Hp → VK → Prop} {g : D → M D} (hc : CallR X (.type T) r) (hs : SimCF X.K X.mg r g) (hg : Gl X x) (hm : X.mg x = none) (hv : bootBuiltins x = some (.type T)) (ha : PMB X os e te m) (hn : x ≠ "__name__" := by decide) (hdb : (x == ("__debug__" : Str)) = false := by decide)
    (he : starEach [e] X.env = (false, eval e X.env) :: starEach [] X.env := by rfl) (hpl : (backTo pos (starEach [] X.env)).any (·.1) = false := by rfl) : PMF X os (.Call (.Name x p') [e] [] pos) (tCB r (tCons te tNil)) (eUn g m) :=
  ⟨pe_callTy hc hg hm hv (pa_cons ha.p pa_nil he) hn hdb he hpl, fun C => simF_c1 (ha.s C) hs⟩
/-- len -/
def dLen : D → M D
  | .str y => guardB (decide (y.length ≤ sizeLine)) (pure (.int y.length))
  | .lst xs => pure (.int xs.length)
  | .ro xs => pure (.int xs.length)
  | .tup xs => pure (.int xs.length)
  | .dic xs => pure (.int xs.length)
  | _ => bad
def rLen (K : PySem.W.Frag) : List V → Hp → VK → Prop := fun xs H Q => (∃ x n, xs = [x] ∧ LenV K x H n ∧ Q (.int n) H) ∨ ∃ a kvs, xs = [V.ref a] ∧ Rd H a (.dK kvs) ∧ Q (.int kvs.length) H
theorem call_lenR {X : Cx} : CallR X (.builtin "len") (fun xs H Q => ∃ a kvs, xs = [V.ref a] ∧ Rd H a (.dK kvs) ∧ Q (.int kvs.length) H) := fun pins s σ H xs us Q I r h => by
  obtain ⟨a, kvs, ex, ha, q⟩ := h
  subst ex
  obtain ⟨u, eu, ru⟩ := vals1 r
  subst eu
  cases ru
  exact d_len I ha fun t s' J => ⟨.int kvs.length, H, J, ⟨t, rfl⟩, q⟩
theorem simC_len {K : PySem.W.Frag} {mg : Str → Option Value} : SimC K mg (rLen K) dLen := by
  intro S G H d x dx Q st sb rx w
  unfold dLen at w
  split at w
  · rw [Wp_guard] at w
    exact .inl ⟨x, _, rfl, by rw [rx.str]; exact ⟨of_decide_eq_true w.1, rfl⟩, w.2 _ _ _ (Aft.refl st sb) (.int _)⟩
  · obtain ⟨a, vs, e1, h1, r1, n1⟩ := rx.lst' sb
    subst e1
    refine .inl ⟨_, vs.length, rfl, .inl ⟨vs, .inl (.inl h1), rfl⟩, ?_⟩
    rw [r1.length]
    exact w _ _ _ (Aft.refl st sb) (.int _)
  · cases rx with
    | of r =>
      cases r with
      | ro hq r1 =>
        refine .inl ⟨_, _, rfl, .inl ⟨_, sb.le.l hq, rfl⟩, ?_⟩
        rw [r1.length]
        exact w _ _ _ (Aft.refl st sb) (.int _)
  · obtain ⟨a, vs, e1, h1, r1⟩ := rx.tup' sb
    subst e1
    refine .inl ⟨_, vs.length, rfl, .inr ⟨vs, sb.le.t h1, rfl⟩, ?_⟩
    rw [r1.length]
    exact w _ _ _ (Aft.refl st sb) (.int _)
  · obtain ⟨a, vs, e1, h1, r1, n1⟩ := rx.dic' sb
    subst e1
    refine .inr ⟨_, vs, rfl, h1, ?_⟩
    rw [r1.length]
    exact w _ _ _ (Aft.refl st sb) (.int _)
  · exact w.elim
theorem pm_len (hg : Gl X "len") (hm : X.mg "len" = none) (ha : PMB X os e te m) (he : starEach [e] X.env = (false, eval e X.env) :: starEach [] X.env := by rfl) (hpl : (backTo pos (starEach [] X.env)).any (·.1) = false := by rfl) : PM X os (.Call (.Name "len" p') [e] [] pos) (tCB (rLen X.K) (tCons te tNil)) (eUn dLen m) :=
  pm_call1 (callr_or call_len call_lenR) simC_len hg hm boot_len ha (by decide) (by decide) he hpl
def dAbs : D → M D
  | .int i => pure (.int (if i < 0 then -i else i))
  | _ => bad
theorem pm_abs (hg : Gl X "abs") (hm : X.mg "abs" = none) (ha : PMB X os e te m) (he : starEach [e] X.env = (false, eval e X.env) :: starEach [] X.env := by rfl) (hpl : (backTo pos (starEach [] X.env)).any (·.1) = false := by rfl) :
    PM X os (.Call (.Name "abs" p') [e] [] pos) (tCB (fun xs H Q => ∃ i, xs = [.int i] ∧ Q (.int (if i < 0 then -i else i)) H) (tCons te tNil)) (eUn dAbs m) :=
  pm_call1 call_abs (fun S G H d x dx Q st sb rx w => by
    unfold dAbs at w
    split at w
    · exact ⟨_, by rw [rx.int], w _ _ _ (Aft.refl st sb) (.int _)⟩
    · exact w.elim) hg hm (by decide +kernel) ha (by decide) (by decide) he hpl
def dInt : D → M D
  | .int i => pure (.int i)
  | .bl b => pure (.int (if b then 1 else 0))
  | _ => bad
theorem pm_intOf (hg : Gl X "int") (hm : X.mg "int" = none) (ha : PMB X os e te m) (he : starEach [e] X.env = (false, eval e X.env) :: starEach [] X.env := by rfl) (hpl : (backTo pos (starEach [] X.env)).any (·.1) = false := by rfl) :
    PM X os (.Call (.Name "int" p') [e] [] pos) (tCB (fun xs H Q => (∃ i, xs = [.int i] ∧ Q (.int i) H) ∨ ∃ k, xs = [.bl k] ∧ Q (.int (if k then 1 else 0)) H) (tCons te tNil)) (eUn dInt m) :=
  pm_callT1 call_int1 (fun S G H d x dx Q st sb rx w => by
    unfold dInt at w
    split at w
    · exact .inl ⟨_, by rw [rx.int], w _ _ _ (Aft.refl st sb) (.int _)⟩
    · exact .inr ⟨_, by rw [rx.bl], w _ _ _ (Aft.refl st sb) (.int _)⟩
    · exact w.elim) hg hm (by decide +kernel) ha (by decide) (by decide) he hpl
def dList : D → M D
  | .lst xs => pure (.lst xs)
  | .tup xs => pure (.lst xs)
  | .ro xs => pure (.lst xs)
  | .plt xs => pure (.lst xs)
  | _ => bad
/-- list(xs), list(t) -/
theorem pmf_list (hg : Gl X "list") (hm : X.mg "list" = none) (ha : PMB X os e te m) (he : starEach [e] X.env = (false, eval e X.env) :: starEach [] X.env := by rfl) (hpl : (backTo pos (starEach [] X.env)).any (·.1) = false := by rfl) :
    PMF X os (.Call (.Name "list" p') [e] [] pos) (tCB (fun xs H Q => ∃ p ys, xs = [.ref p] ∧ (SqL X.K H p ys ∨ SqT X.K H p ys) ∧ ∀ l, H l = none → Q (.ref l) (upd H l (.lst ys))) (tCons te tNil)) (eUn dList m) :=
  pmf_callT1 call_list_of (fun S G H d x dx Q st sb rx w => by
    unfold dList at w
    split at w
    · obtain ⟨a, vs, e1, h1, r1, n1⟩ := rx.lst' sb
      exact ⟨a, vs, by rw [e1], .inl (.inl (.inl h1)), fun p hp => w _ _ _ (Aft.newF st sb hp) (.lst hp (sb.free hp) upd_same r1)⟩
    · obtain ⟨a, vs, e1, h1, r1⟩ := rx.tup' sb
      exact ⟨a, vs, by rw [e1], .inr (sb.le.t h1), fun p hp => w _ _ _ (Aft.newF st sb hp) (.lst hp (sb.free hp) upd_same r1)⟩
    · cases rx with
      | of r =>
        cases r with
        | ro hq r1 => exact ⟨_, _, rfl, .inl (sb.le.l hq), fun p hp => w _ _ _ (Aft.newF st sb hp) (.lst hp (sb.free hp) upd_same r1)⟩
    · cases rx with
      | of r =>
        cases r with
        | plt hq hn r1 => exact ⟨_, _, rfl, .inr (.inl (.inr ⟨_, sb.le _ _ hq⟩)), fun p hp => w _ _ _ (Aft.newF st sb hp) (.lst hp (sb.free hp) upd_same r1)⟩
    · exact w.elim) hg hm (by decide +kernel) ha (by decide) (by decide) he hpl
def dTuple : D → M D
  | .lst xs => pure (.tup xs)
  | .ro xs => pure (.tup xs)
  | .tup xs => pure (.tup xs)
  | _ => bad
theorem pm_tuple (hg : Gl X "tuple") (hm : X.mg "tuple" = none) (ha : PMB X os e te m) (he : starEach [e] X.env = (false, eval e X.env) :: starEach [] X.env := by rfl) (hpl : (backTo pos (starEach [] X.env)).any (·.1) = false := by rfl) :
    PM X os (.Call (.Name "tuple" p') [e] [] pos) (tCB (fun xs H Q => ∃ p ys, xs = [.ref p] ∧ ((SqL X.K H p ys ∧ ∀ l, H l = none → Q (.ref l) (upd H l (.tup ys))) ∨ (SqT X.K H p ys ∧ Q (.ref p) H))) (tCons te tNil)) (eUn dTuple m) :=
  pm_callT1 call_tuple_of (fun S G H d x dx Q st sb rx w => by
    unfold dTuple at w
    split at w
    · obtain ⟨a, vs, e1, h1, r1, n1⟩ := rx.lst' sb
      exact ⟨a, vs, by rw [e1], .inl ⟨.inl (.inl h1), fun p hp => w _ _ _ (Aft.new st sb hp) (.tup (.inl (.inl upd_same)) (r1.mono (Le.new (sb.free hp))))⟩⟩
    · cases rx with
      | of r =>
        cases r with
        | ro hq r1 => exact ⟨_, _, rfl, .inl ⟨sb.le.l hq, fun p hp => w _ _ _ (Aft.new st sb hp) (.tup (.inl (.inl upd_same)) (r1.mono (Le.new (sb.free hp))))⟩⟩
    · obtain ⟨a, vs, e1, h1, r1⟩ := rx.tup' sb
      exact ⟨a, vs, by rw [e1], .inr ⟨sb.le.t h1, w _ _ _ (Aft.refl st sb) (.tup h1 r1)⟩⟩
    · exact w.elim) hg hm (by decide +kernel) ha (by decide) (by decide) he hpl
/-- all(..), sum(..) of a list of truths, of ints -/
def bls : List D → Option (List Bool)
  | [] => some []
  | .bl b :: r => (bls r).map (b :: ·)
  | _ => none
def nums : List D → Option (List Int)
  | [] => some []
  | .int b :: r => (nums r).map (b :: ·)
  | _ => none
theorem bls_rep {K : PySem.W.Frag} {mg : Str → Option Value} {S : SA} {G : Hp} : ∀ {vs : List V} {ds : List D} {bs : List Bool}, Reps K mg S G vs ds → bls ds = some bs → vs = bs.map V.bl
  | _, _, _, .nil, e => by cases e; rfl
  | _, _, _, .cons (.bl b) t, e => by
    rw [bls, Option.map_eq_some_iff] at e
    obtain ⟨r, e1, e2⟩ := e
    subst e2
    rw [bls_rep t e1]; rfl
  | _, _, _, .cons .non _, e | _, _, _, .cons (.int _) _, e | _, _, _, .cons (.str _) _, e | _, _, _, .cons (.lst _ _) _, e | _, _, _, .cons (.ro _ _) _, e | _, _, _, .cons (.tup _ _) _, e | _, _, _, .cons (.dic _ _) _, e | _, _, _, .cons (.obj _ _ _) _, e | _, _, _, .cons .st _, e | _, _, _, .cons (.ln _ _) _, e | _, _, _, .cons (.plt _ _ _) _, e => by cases e
theorem nums_rep {K : PySem.W.Frag} {mg : Str → Option Value} {S : SA} {G : Hp} : ∀ {vs : List V} {ds : List D} {bs : List Int}, Reps K mg S G vs ds → nums ds = some bs → vs = bs.map V.int
  | _, _, _, .nil, e => by cases e; rfl
  | _, _, _, .cons (.int b) t, e => by
    rw [nums, Option.map_eq_some_iff] at e
    obtain ⟨r, e1, e2⟩ := e
    subst e2
    rw [nums_rep t e1]; rfl
  | _, _, _, .cons .non _, e | _, _, _, .cons (.bl _) _, e | _, _, _, .cons (.str _) _, e | _, _, _, .cons (.lst _ _) _, e | _, _, _, .cons (.ro _ _) _, e | _, _, _, .cons (.tup _ _) _, e | _, _, _, .cons (.dic _ _) _, e | _, _, _, .cons (.obj _ _ _) _, e | _, _, _, .cons .st _, e | _, _, _, .cons (.ln _ _) _, e | _, _, _, .cons (.plt _ _ _) _, e => by cases e
def dAll : D → M D
  | .lst xs => match bls xs with
    | some bs => pure (.bl (bs.all id))
    | none => bad
  | _ => bad
def dSum : D → M D
  | .lst xs => match nums xs with
    | some bs => pure (.int bs.sum)
    | none => bad
  | _ => bad
theorem pm_all (hc : X.calm = true) (hg : Gl X "all") (hm : X.mg "all" = none) (ha : PMB X os e te m) (he : starEach [e] X.env = (false, eval e X.env) :: starEach [] X.env := by rfl) (hpl : (backTo pos (starEach [] X.env)).any (·.1) = false := by rfl) :
    PM X os (.Call (.Name "all" p') [e] [] pos) (tCB (rAll X.K) (tCons te tNil)) (eUn dAll m) :=
  pm_call1 (cr_all hc) (fun S G H d x dx Q st sb rx w => by
    unfold dAll at w
    split at w
    · rename_i xs
      obtain ⟨a, vs, e1, h1, r1, n1⟩ := rx.lst' sb
      cases hb : bls xs with
      | none => simp only [hb] at w; exact w.elim
      | some bs =>
        simp only [hb] at w
        exact ⟨a, bs, by rw [e1], .inl (.inl (by rw [h1, bls_rep r1 hb])), w _ _ _ (Aft.refl st sb) (.bl _)⟩
    · exact w.elim) hg hm (by decide +kernel) ha (by decide) (by decide) he hpl
theorem pm_sum (hc : X.calm = true) (hg : Gl X "sum") (hm : X.mg "sum" = none) (ha : PMB X os e te m) (he : starEach [e] X.env = (false, eval e X.env) :: starEach [] X.env := by rfl) (hpl : (backTo pos (starEach [] X.env)).any (·.1) = false := by rfl) :
    PM X os (.Call (.Name "sum" p') [e] [] pos) (tCB (rSum X.K) (tCons te tNil)) (eUn dSum m) :=
  pm_call1 (cr_sum hc) (fun S G H d x dx Q st sb rx w => by
    unfold dSum at w
    split at w
    · rename_i xs
      obtain ⟨a, vs, e1, h1, r1, n1⟩ := rx.lst' sb
      cases hb : nums xs with
      | none => simp only [hb] at w; exact w.elim
      | some bs =>
        simp only [hb] at w
        exact ⟨a, bs, by rw [e1], .inl (.inl (by rw [h1, nums_rep r1 hb])), w _ _ _ (Aft.refl st sb) (.int _)⟩
    · exact w.elim) hg hm (by decide +kernel) ha (by decide) (by decide) he hpl
end
end Mir
end
section
set_option Elab.async false
set_option linter.all false
set_option maxRecDepth 100000
set_option maxHeartbeats 2000000
/-! Mir, part F: subscripts, slices, in, isinstance, dicts, what changes one's own objects. -/
namespace Mir
open PySem PySem.Spec PyProof.Rows L2

section
variable {K : PySem.W.Frag} {mg : Str → Option Value} {S : SA} {G H : Hp}
theorem atI_rep {vs : List V} {ds : List D} {i : Int} {x : D} (r : Reps K mg S G vs ds) (e : atI ds i = some x) : ∃ v, atI vs i = some v ∧ Rep K mg S G v x := by
  unfold atI at e ⊢
  rw [r.length]
  cases h : ixN ds.length i with
  | none => rw [h] at e; cases e
  | some j =>
    rw [h] at e
    obtain ⟨v, e1, rv⟩ := r.get (i := j) (d := x) e
    exact ⟨v, e1, rv⟩
end
section
variable {X : Cx} {fr : Bool} {os os' ol : List Nat} {e a b c : Expr} {es : List Expr} {te ta tb tc : TE} {tas : TA} {m ma mb mc : Ev → M D} {ms : Ev → M (List D)} {pos p' : Pos} {k : Nat} {x y : Str}
def dIx : D → D → M D
  | .lst xs, .int i => match atI xs i with
    | some z => pure z
    | none => bad
  | .ro xs, .int i => match atI xs i with
    | some z => pure z
    | none => bad
  | .tup xs, .int i => match atI xs i with
    | some z => pure z
    | none => bad
  | .str z, .int i => guardB (decide (z.length ≤ sizeLine)) (match atI z.cps.toList i with
    | some c => pure (.str ⟨#[c]⟩)
    | none => bad)
  | _, _ => bad
def rIx (K : PySem.W.Frag) : R2 := fun x y H Q => rIxL K x y H Q ∨ rIxT K x y H Q ∨ rIxS x y H Q
theorem simR_ix {K : PySem.W.Frag} {mg : Str → Option Value} : SimR K mg (rIx K) dIx := by
  intro S G H d x y dx dy Q st sb rx ry w
  unfold dIx at w
  split at w
  · rename_i xs i
    cases h : atI xs i with
    | none => simp only [h] at w; exact w.elim
    | some z =>
      simp only [h] at w
      obtain ⟨a, vs, e1, h1, r1, n1⟩ := rx.lst' sb
      obtain ⟨v, e2, rv⟩ := atI_rep r1 h
      exact .inl ⟨a, vs, i, v, e1, ry.int, .inl (.inl h1), e2, w _ _ _ (Aft.refl st sb) rv⟩
  · rename_i xs i
    cases h : atI xs i with
    | none => simp only [h] at w; exact w.elim
    | some z =>
      simp only [h] at w
      cases rx with
      | of r =>
        cases r with
        | ro hq r1 =>
          obtain ⟨v, e2, rv⟩ := atI_rep r1 h
          exact .inl ⟨_, _, i, v, rfl, ry.int, sb.le.l hq, e2, w _ _ _ (Aft.refl st sb) rv⟩
  · rename_i xs i
    cases h : atI xs i with
    | none => simp only [h] at w; exact w.elim
    | some z =>
      simp only [h] at w
      obtain ⟨a, vs, e1, h1, r1⟩ := rx.tup' sb
      obtain ⟨v, e2, rv⟩ := atI_rep r1 h
      exact .inr (.inl ⟨a, vs, i, v, e1, ry.int, sb.le.t h1, e2, w _ _ _ (Aft.refl st sb) rv⟩)
  · rename_i z i
    rw [Wp_guard] at w
    obtain ⟨hz, w⟩ := w
    cases h : atI z.cps.toList i with
    | none => simp only [h] at w; exact w.elim
    | some c =>
      simp only [h] at w
      exact .inr (.inr ⟨z, i, c, rx.str, ry.int, of_decide_eq_true hz, h, w _ _ _ (Aft.refl st sb) (.str _)⟩)
  · exact w.elim
theorem pm_ix (ha : PMB X os a ta ma) (hb : PMB X os b tb mb) (hs : PlainIx b := by exact fun _ _ => rfl) : PM X os (.Subscript a b pos) (tOp (rIx X.K) ta tb) (eBin dIx ma mb) :=
  ⟨pe_ix (IxR.or ix_list (IxR.or ix_tup ix_str)) ha.p hb.p hs, fun C => simE_op (ha.s C) (hb.s C) simR_ix⟩

/-! ### slices -/
structure PMO (X : Cx) (os : List Nat) (e : Option Expr) (to : TO) (m : Ev → M (Option Int)) : Prop where
  p : PO X e to
  s : ∀ C G σ H env d (Q : Option Int → Hp → Prop), IM X.K X.mg C os env σ H G d → Wp (m env d) (fun o d' => ∀ H' G', Aft C.S G H G' H' d' → Q o H') → to σ H Q
def oNone : Ev → M (Option Int) := fun _ => pure none
def oSome (m : Ev → M D) : Ev → M (Option Int) := fun env => m env >>= fun x => match x with
  | .int i => pure (some i)
  | _ => bad
theorem pmo_none : PMO X os none tNoPart oNone := ⟨po_none, fun C G σ H env d Q I w => w H G (Aft.refl I.st I.sub)⟩
theorem pmo_some (h : PMB X os e te m) : PMO X os (some e) (tPart te) (oSome m) := ⟨po_some h.p, fun C G σ H env d Q I w => by
  unfold oSome at w
  rw [Wp_bind] at w
  refine h.s C G σ H env d _ I (w.imp fun x d1 w1 v1 H1 G1 A1 r1 => ?_)
  split at w1
  · exact ⟨_, r1.int, w1 H1 G1 A1⟩
  · exact w1.elim⟩
def cutL {α : Type} (xs : List α) (lo hi : Option Int) : List α := (xs.drop (HT.sIx xs.length 0 lo)).take (HT.sIx xs.length xs.length hi - HT.sIx xs.length 0 lo)
theorem cut_rep {K : PySem.W.Frag} {mg : Str → Option Value} {S : SA} {G : Hp} {vs : List V} {ds : List D} {lo hi : Option Int} (r : Reps K mg S G vs ds) : Reps K mg S G (cutV vs lo hi) (cutL ds lo hi) := by
  unfold cutV cutL
  rw [r.length]
  exact (r.drop _).take _
def dSl (x : D) (lo hi : Option Int) : M D := match x with
  | .lst xs => pure (.lst (cutL xs lo hi))
  | .str z => guardB (decide (z.length ≤ sizeLine)) (pure (.str (cutS z lo hi)))
  | .tup xs => guardB (!decide (HT.sIx xs.length 0 lo = 0 ∧ HT.sIx xs.length xs.length hi = xs.length)) (pure (.tup (cutL xs lo hi)))
  | _ => bad
def eSl (m : Ev → M D) (ml mh : Ev → M (Option Int)) : Ev → M D := fun env => m env >>= fun x => ml env >>= fun lo => mh env >>= fun hi => dSl x lo hi
def rSl (K : PySem.W.Frag) : V → Option Int → Option Int → Hp → VK → Prop := fun x lo hi H Q => rSlL K x lo hi H Q ∨ rSlS x lo hi H Q ∨ rSlT K x lo hi H Q
variable {lo hi : Option Expr} {tl th : TO} {ml mh : Ev → M (Option Int)} {p2 : Pos}
theorem pm_sl (ha : PMB X os a ta ma) (hl : PMO X os lo tl ml) (hh : PMO X os hi th mh) : PM X os (.Subscript a (.Slice lo hi none p2) pos) (tSl (rSl X.K) ta tl th) (eSl ma ml mh) := by
  refine ⟨pe_slice (SlR.or sl_list (SlR.or sl_str sl_tup)) ha.p hl.p hh.p, fun C G σ H env d Q I w => ?_⟩
  unfold eSl at w
  rw [Wp_bind] at w
  refine ha.s C G σ H env d _ I (w.imp fun x d1 w1 v1 H1 G1 A1 r1 => ?_)
  rw [Wp_bind] at w1
  refine hl.s C G1 σ H1 env d1 _ (I.later A1) (w1.imp fun lo d2 w2 H2 G2 A2 => ?_)
  rw [Wp_bind] at w2
  refine hh.s C G2 σ H2 env d2 _ (I.later (A1.trans A2)) (w2.imp fun hi d3 w3 H3 G3 A3 => ?_)
  have r3 := (r1.later A2).later A3
  have A := A1.trans (A2.trans A3)
  unfold dSl at w3
  split at w3
  · obtain ⟨a, vs, e1, h1, rr, n1⟩ := r3.lst' A.sub
    exact .inl ⟨a, vs, e1, .inl (.inl h1), fun p hp => w3 _ _ _ (A.trans (Aft.new A.st A.sub hp)) (.lst upd_same ((cut_rep rr).mono (Le.new (A.sub.free hp))))⟩
  · rw [Wp_guard] at w3
    exact .inr (.inl ⟨_, r3.str, of_decide_eq_true w3.1, w3.2 _ _ _ A (.str _)⟩)
  · rw [Wp_guard] at w3
    obtain ⟨a, vs, e1, h1, rr⟩ := r3.tup' A.sub
    refine .inr (.inr ⟨a, vs, e1, A.sub.le.t h1, ?_, fun p hp => w3.2 _ _ _ (A.trans (Aft.new A.st A.sub hp)) (.tup (.inl (.inl upd_same)) ((cut_rep rr).mono (Le.new (A.sub.free hp))))⟩)
    rw [rr.length]
    have := w3.1
    rw [Bool.not_eq_true', decide_eq_false_iff_not] at this
    exact this
  · exact w3.elim
def dSlL (x : D) (lo hi : Option Int) : M D := match x with
  | .lst xs => pure (.lst (cutL xs lo hi))
  | _ => bad
def eSlL (m : Ev → M D) (ml mh : Ev → M (Option Int)) : Ev → M D := fun env => m env >>= fun x => ml env >>= fun lo => mh env >>= fun hi => dSlL x lo hi
/-- xs[a:b], a list, as a new one -/
theorem pmf_sl (ha : PMB X os a ta ma) (hl : PMO X os lo tl ml) (hh : PMO X os hi th mh) : PMF X os (.Subscript a (.Slice lo hi none p2) pos) (tSl (rSlL X.K) ta tl th) (eSlL ma ml mh) := by
  refine ⟨pe_slice sl_list ha.p hl.p hh.p, fun C G σ H env d Q I w => ?_⟩
  unfold eSlL at w
  rw [Wp_bind] at w
  refine ha.s C G σ H env d _ I (w.imp fun x d1 w1 v1 H1 G1 A1 r1 => ?_)
  rw [Wp_bind] at w1
  refine hl.s C G1 σ H1 env d1 _ (I.later A1) (w1.imp fun lo d2 w2 H2 G2 A2 => ?_)
  rw [Wp_bind] at w2
  refine hh.s C G2 σ H2 env d2 _ (I.later (A1.trans A2)) (w2.imp fun hi d3 w3 H3 G3 A3 => ?_)
  have r3 := (r1.later A2).later A3
  have A := A1.trans (A2.trans A3)
  unfold dSlL at w3
  split at w3
  · obtain ⟨a, vs, e1, h1, rr, n1⟩ := r3.lst' A.sub
    exact ⟨a, vs, e1, .inl (.inl h1), fun p hp => w3 _ _ _ (A.trans (Aft.newF A.st A.sub hp)) (.lst (A.free hp) (A.sub.free hp) upd_same (cut_rep rr))⟩
  · exact w3.elim
def dRev : D → M D
  | .lst xs => pure (.lst xs.reverse)
  | _ => bad
/-- xs[::-1] -/
theorem pmf_rev {kk : Nat} {p1 p3 : Pos} (ha : PMB X os a ta ma) : PMF X os (.Subscript a (.Slice none none (some (.UnaryOp .USub (.Constant (.int 1) kk p1) p2)) p3) pos) (tRevL X.K ta) (eUn dRev ma) := by
  refine ⟨pe_revL ha.p, fun C G σ H env d Q I w => ?_⟩
  unfold eUn at w
  rw [Wp_bind] at w
  refine ha.s C G σ H env d _ I (w.imp fun x d1 w1 v1 H1 G1 A1 r1 => ?_)
  unfold dRev at w1
  split at w1
  · obtain ⟨a, vs, e1, h1, rr, n1⟩ := r1.lst' A1.sub
    exact ⟨a, vs, e1, .inl (.inl h1), fun p hp => w1 _ _ _ (A1.trans (Aft.newF A1.st A1.sub hp)) (.lst (A1.free hp) (A1.sub.free hp) upd_same rr.reverse)⟩
  · exact w1.elim

/-! ### in -/
def flatD : D → Bool
  | .non => true
  | .bl _ => true
  | .int _ => true
  | .str _ => true
  | _ => false
def valD : D → V
  | .bl b => .bl b
  | .int i => .int i
  | .str s => .str s
  | _ => .non
theorem flat_rep {K : PySem.W.Frag} {mg : Str → Option Value} {S : SA} {G : Hp} {v : V} {d : D} (r : Rep K mg S G v d) (h : flatD d = true) : v = valD d ∧ flatV v = true := by
  cases r <;> first | exact ⟨rfl, rfl⟩ | cases h
theorem flats_rep {K : PySem.W.Frag} {mg : Str → Option Value} {S : SA} {G : Hp} : ∀ {vs : List V} {ds : List D}, Reps K mg S G vs ds → ds.all flatD = true → vs = ds.map valD ∧ vs.all flatV = true
  | _, _, .nil, _ => ⟨rfl, rfl⟩
  | _, _, .cons a b, h => by
    rw [List.all_cons, Bool.and_eq_true] at h
    obtain ⟨e1, f1⟩ := flat_rep a h.1
    obtain ⟨e2, f2⟩ := flats_rep b h.2
    refine ⟨by rw [List.map_cons, ← e1, ← e2], by rw [List.all_cons, f1, f2]; rfl⟩
def inD (x : D) (xs : List D) : Bool := inV (valD x) (xs.map valD)
def dInS (neg : Bool) (x y : D) : M D := match y with
  | .lst xs => guardB (flatD x && xs.all flatD) (pure (.bl (if neg then !inD x xs else inD x xs)))
  | .tup xs => guardB (flatD x && xs.all flatD) (pure (.bl (if neg then !inD x xs else inD x xs)))
  | _ => bad
theorem simR_in {K : PySem.W.Frag} {mg : Str → Option Value} {neg : Bool} : SimR K mg (rIn K neg) (dInS neg) := by
  intro S G H d x y dx dy Q st sb rx ry w
  have fx : ∀ {z : D}, RepT K mg S G H x z → flatD z = true → x = valD z ∧ flatV x = true := fun {z} r h => by
    cases r with
    | of r => exact flat_rep r h
    | lst => cases h
    | dic => cases h
  unfold dInS at w
  split at w
  · rw [Wp_guard, Bool.and_eq_true] at w
    obtain ⟨a, vs, e1, h1, r1, n1⟩ := ry.lst' sb
    obtain ⟨q1, q2⟩ := fx rx w.1.1
    obtain ⟨q3, q4⟩ := flats_rep r1 w.1.2
    refine ⟨a, vs, e1, .inl (.inl (.inl h1)), q2, q4, ?_⟩
    have k := w.2 _ _ _ (Aft.refl st sb) (.bl _)
    unfold inD at k
    rw [← q1, ← q3] at k
    exact k
  · rw [Wp_guard, Bool.and_eq_true] at w
    obtain ⟨a, vs, e1, h1, r1⟩ := ry.tup' sb
    obtain ⟨q1, q2⟩ := fx rx w.1.1
    obtain ⟨q3, q4⟩ := flats_rep r1 w.1.2
    refine ⟨a, vs, e1, .inr (sb.le.t h1), q2, q4, ?_⟩
    have k := w.2 _ _ _ (Aft.refl st sb) (.bl _)
    unfold inD at k
    rw [← q1, ← q3] at k
    exact k
  · exact w.elim
theorem pm_inS (ha : PMB X os a ta ma) (hb : PMB X os b tb mb) (hm : behindInMarks .In b = false := by rfl) : PMC X os (.Compare a [.In] [b] pos) (tOp (rIn X.K false) ta tb) (eBin (dInS false) ma mb) := pm_cmp op_in_seq simR_in ha hb hm
theorem pm_notInS (ha : PMB X os a ta ma) (hb : PMB X os b tb mb) (hm : behindInMarks .NotIn b = false := by rfl) : PMC X os (.Compare a [.NotIn] [b] pos) (tOp (rIn X.K true) ta tb) (eBin (dInS true) ma mb) := pm_cmp op_notIn_seq simR_in ha hb hm
/-- one sign in a text -/
def dInT (neg : Bool) (x y : D) : M D := match x, y with
  | .str c, .str z => guardB (decide (c.cps.size = 1)) (pure (.bl (if neg then !decide (c.cps.toList.headD 0 ∈ z.cps.toList) else decide (c.cps.toList.headD 0 ∈ z.cps.toList))))
  | _, _ => bad
theorem pm_inT (ha : PMB X os a ta ma) (hb : PMB X os b tb mb) (hm : behindInMarks .In b = false := by rfl) : PMC X os (.Compare a [.In] [b] pos) (tOp (fun x y H Q => ∃ (c : Nat) (z : Str), x = .str ⟨#[c]⟩ ∧ y = .str z ∧ Q (.bl (decide (c ∈ z.cps.toList))) H) ta tb) (eBin (dInT false) ma mb) :=
  pm_cmp op_in_sign (fun S G H d x y dx dy Q st sb rx ry w => by
    unfold dInT at w
    split at w
    · rename_i c z
      rw [Wp_guard] at w
      obtain ⟨cps⟩ := c
      obtain ⟨l⟩ := cps
      have hl := of_decide_eq_true w.1
      match l, hl with
      | [q], _ => exact ⟨q, z, rx.str, ry.str, w.2 _ _ _ (Aft.refl st sb) (.bl _)⟩
    · exact w.elim) ha hb hm

/-! ### isinstance -/
def tyN : D → Option String
  | .non => some "NoneType"
  | .bl _ => some "bool"
  | .int _ => some "int"
  | .str _ => some "str"
  | .lst _ => some "list"
  | .ro _ => some "list"
  | .tup _ => some "tuple"
  | .dic _ => some "dict"
  | _ => none
theorem RepT.ty {K : PySem.W.Frag} {mg : Str → Option Value} {S : SA} {G H : Hp} {v : V} {d : D} {t : String} (sb : Sub S G H) (h : RepT K mg S G H v d) (e : tyN d = some t) : TyX K H v (.type t) := by
  cases h with
  | of r =>
    cases r with
    | non => cases e; exact .base .non
    | bl b => cases e; exact .base (.bl b)
    | int i => cases e; exact .base (.int i)
    | str x => cases e; exact .base (.str x)
    | lst h r => cases e; exact .base (.lst (sb.le _ _ h))
    | ro h r =>
      cases e
      rcases h with (h | ⟨o, h⟩) | ⟨o, _, _, h, c, _⟩
      · exact .base (.lst (sb.le _ _ h))
      · exact .base (.frz (sb.le _ _ h))
      · exact .kList h c
    | tup h r =>
      cases e
      rcases h with (h | ⟨o, h⟩) | ⟨o, _, _, h, c, _⟩
      · exact .base (.tup (sb.le _ _ h))
      · exact .fTuple (sb.le _ _ h)
      · exact .kTuple h c
    | dic h r => cases e; exact .fDict (sb.le _ _ h)
    | obj => cases e
    | st => cases e
    | ln => cases e
    | plt => cases e
  | lst n h r => cases e; exact .base (.lst h)
  | dic n h r => cases e; exact .base (.dK h)
def dIsi (g : D → Bool) (x : D) : M D := guardB (tyN x).isSome (pure (.bl (g x)))
theorem pm_isi {T : Str} {n : String} (g : D → Bool) (hk : ∀ x t, tyN x = some t → kitB t n = some (g x)) (hg : Gl X "isinstance") (hm : X.mg "isinstance" = none) (gT : Gl X T) (mT : X.mg T = none) (hT : bootBuiltins T = some (.type n)) (ha : PMB X os a ta ma) {pT : Pos}
    (hn : T ≠ "__name__" := by decide) (hd : (T == ("__debug__" : Str)) = false := by decide)
    (he : starEach [a, .Name T pT] X.env = (false, eval a X.env) :: starEach [.Name T pT] X.env := by rfl) (he2 : starEach [.Name T pT] X.env = (false, eval (.Name T pT) X.env) :: starEach [] X.env := by rfl) (hpl : (backTo pos (starEach [.Name T pT] X.env)).any (·.1) = false := by rfl) :
    PM X os (.Call (.Name "isinstance" p') [a, .Name T pT] [] pos) (tCB (rIsi X.K) (tCons ta (tCons (tC (.ty n)) tNil))) (eUn (dIsi g) ma) := by
  refine ⟨pe_callB call_isi hg hm (by decide +kernel) (pa_cons ha.p (pa_cons (pe_bltn (v := .ty n) gT mT hT rfl hn hd) pa_nil he2) he) (by decide) (by decide) he hpl, fun C G σ H env d Q I w => ?_⟩
  unfold eUn at w
  rw [Wp_bind] at w
  refine ha.s C G σ H env d _ I (w.imp fun x d1 w1 v1 H1 G1 A1 r1 => ?_)
  unfold dIsi at w1
  rw [Wp_guard] at w1
  obtain ⟨t, ht⟩ := Option.isSome_iff_exists.mp w1.1
  exact ⟨v1, .ty n, .type t, .type n, g x, rfl, .ty n, r1.ty A1.sub ht, kit_ty (hk x t ht), w1.2 _ _ _ A1 (.bl _)⟩
theorem pm_isi2 {T T2 : Str} {n n2 : String} (g g2 : D → Bool) (hk : ∀ x t, tyN x = some t → kitB t n = some (g x)) (hk2 : ∀ x t, tyN x = some t → kitB t n2 = some (g2 x)) (hg : Gl X "isinstance") (hm : X.mg "isinstance" = none) (gT : Gl X T) (mT : X.mg T = none) (hT : bootBuiltins T = some (.type n))
    (gT2 : Gl X T2) (mT2 : X.mg T2 = none) (hT2 : bootBuiltins T2 = some (.type n2)) (ha : PMB X os a ta ma) {pT pT2 pU : Pos} {x1}
    (hn : T ≠ "__name__" := by decide) (hd : (T == ("__debug__" : Str)) = false := by decide) (hn2 : T2 ≠ "__name__" := by decide) (hd2 : (T2 == ("__debug__" : Str)) = false := by decide)
    (he : starEach [a, .Tuple [.Name T pT, .Name T2 pT2] x1 pU] X.env = (false, eval a X.env) :: starEach [.Tuple [.Name T pT, .Name T2 pT2] x1 pU] X.env := by rfl) (he2 : starEach [.Tuple [.Name T pT, .Name T2 pT2] x1 pU] X.env = (false, eval (.Tuple [.Name T pT, .Name T2 pT2] x1 pU) X.env) :: starEach [] X.env := by rfl)
    (he3 : starEach [.Name T pT, .Name T2 pT2] X.env = (false, eval (.Name T pT) X.env) :: starEach [.Name T2 pT2] X.env := by rfl) (he4 : starEach [.Name T2 pT2] X.env = (false, eval (.Name T2 pT2) X.env) :: starEach [] X.env := by rfl) (hpl : (backTo pos (starEach [.Tuple [.Name T pT, .Name T2 pT2] x1 pU] X.env)).any (·.1) = false := by rfl) :
    PM X os (.Call (.Name "isinstance" p') [a, .Tuple [.Name T pT, .Name T2 pT2] x1 pU] [] pos) (tCB (rIsiT X.K) (tCons ta (tCons (tTup (tCons (tC (.ty n)) (tCons (tC (.ty n2)) tNil))) tNil))) (eUn (dIsi fun x => g x || g2 x) ma) := by
  refine ⟨pe_callB call_isiT hg hm (by decide +kernel) (pa_cons ha.p (pa_cons (pe_tup (pa_cons (pe_bltn (v := .ty n) gT mT hT rfl hn hd) (pa_cons (pe_bltn (v := .ty n2) gT2 mT2 hT2 rfl hn2 hd2) pa_nil he4) he3)) pa_nil he2) he) (by decide) (by decide) he hpl, fun C G σ H env d Q I w => ?_⟩
  unfold eUn at w
  rw [Wp_bind] at w
  refine ha.s C G σ H env d _ I (w.imp fun x d1 w1 v1 H1 G1 A1 r1 => ?_)
  unfold dIsi at w1
  rw [Wp_guard] at w1
  obtain ⟨t, ht⟩ := Option.isSome_iff_exists.mp w1.1
  refine ⟨by show 2 ≤ sizeLine; decide, fun p hp => ?_⟩
  have A2 : Aft C.S G1 H1 G1 (upd H1 p (.tup [.ty n, .ty n2])) d1 := Aft.newF A1.st A1.sub hp
  refine ⟨v1, p, [.ty n, .ty n2], .type t, [.type n, .type n2], g x || g2 x, rfl, upd_same, .cons (.ty n) (.cons (.ty n2) .nil), (r1.later A2).ty A2.sub ht, ?_, w1.2 _ _ _ (A1.trans A2) (.bl _)⟩
  refine kitAny_cons (kit_ty (hk x t ht)) (fun hb => kitAny_cons (kit_ty (hk2 x t ht)) (fun hb2 => ?_) fun hb2 => ?_) fun hb => ?_
  · rw [hb, hb2]; exact kitAny_nil
  · rw [hb2, Bool.or_true]
  · rw [hb, Bool.true_or]
def isStr : D → Bool
  | .str _ => true
  | _ => false
def isInt : D → Bool
  | .int _ => true
  | .bl _ => true
  | _ => false
def isBl : D → Bool
  | .bl _ => true
  | _ => false
def isLst : D → Bool
  | .lst _ => true
  | .ro _ => true
  | _ => false
def isTup : D → Bool
  | .tup _ => true
  | _ => false
def isDic : D → Bool
  | .dic _ => true
  | _ => false
theorem kStr : ∀ x t, tyN x = some t → kitB t "str" = some (isStr x) := fun x t h => by cases x <;> first | (cases h; show kitB _ _ = some false; decide +kernel) | (cases h; show kitB _ _ = some true; decide +kernel) | cases h
theorem kInt : ∀ x t, tyN x = some t → kitB t "int" = some (isInt x) := fun x t h => by cases x <;> first | (cases h; show kitB _ _ = some false; decide +kernel) | (cases h; show kitB _ _ = some true; decide +kernel) | cases h
theorem kBool : ∀ x t, tyN x = some t → kitB t "bool" = some (isBl x) := fun x t h => by cases x <;> first | (cases h; show kitB _ _ = some false; decide +kernel) | (cases h; show kitB _ _ = some true; decide +kernel) | cases h
theorem kList : ∀ x t, tyN x = some t → kitB t "list" = some (isLst x) := fun x t h => by cases x <;> first | (cases h; show kitB _ _ = some false; decide +kernel) | (cases h; show kitB _ _ = some true; decide +kernel) | cases h
theorem kTuple : ∀ x t, tyN x = some t → kitB t "tuple" = some (isTup x) := fun x t h => by cases x <;> first | (cases h; show kitB _ _ = some false; decide +kernel) | (cases h; show kitB _ _ = some true; decide +kernel) | cases h
theorem kDict : ∀ x t, tyN x = some t → kitB t "dict" = some (isDic x) := fun x t h => by cases x <;> first | (cases h; show kitB _ _ = some false; decide +kernel) | (cases h; show kitB _ _ = some true; decide +kernel) | cases h
end
end Mir
end
section
set_option Elab.async false
set_option linter.all false
set_option maxRecDepth 100000
set_option maxHeartbeats 2000000
/-! Mir, part G: what changes one's own objects; dicts; calls with two things; chains; two names at once. -/
namespace Mir
open PySem PySem.Spec PyProof.Rows L2

section
variable {K : PySem.W.Frag} {mg : Str → Option Value} {C : Ct} {os : List Nat} {env : Ev} {σ : St} {G H G' H' : Hp} {d d' : Drw} {v : V} {x x' : D} {i : Nat} {a : Addr}
theorem IM.mut {o : HO} (I : IM K mg C os env σ H G d) (hi : i ∈ os) (e1 : env[i]? = some (some x)) (e2 : σ[i]? = some (some (.ref a))) (oa : OwnA K mg C G H a x) (new : OwnO K mg C.S G (upd H a o) a x') : IM K mg C os (env.set i (some x')) σ (upd H a o) G d where
  aft := {
    hp := fun b u e n => by
      have z : b ≠ a := fun z => by rw [z, oa.h] at e; cases e
      rw [upd_ne z]; exact I.aft.hp b u e n
    gm := I.aft.gm
    gn := I.aft.gn
    st := I.st.alt oa.n
    sub := fun b u e => by
      have z : b ≠ a := fun z => by rw [z, oa.g] at e; cases e
      rw [upd_ne z]; exact I.sub b u e }
  len := by rw [List.length_set]; exact I.len
  sh := fun j y hj e => by
    have z : i ≠ j := fun z => hj (z ▸ hi)
    rw [List.getElem?_set_ne z] at e
    exact I.sh j y hj e
  ow := fun j y hj e => by
    by_cases z : i = j
    · subst z
      have hl : i < env.length := by
        have := (List.getElem?_eq_some_iff.mp e).1
        rwa [List.length_set] at this
      rw [List.getElem?_set_self hl] at e
      cases e
      exact ⟨_, e2, .ref ⟨oa.g, oa.n, oa.h, new⟩⟩
    · rw [List.getElem?_set_ne z] at e
      obtain ⟨v, q1, ov⟩ := I.ow j y hj e
      refine ⟨v, q1, ?_⟩
      cases ov with
      | non => exact .non
      | @ref b _ q2 =>
      have zb : b ≠ a := fun zb => by
        subst zb
        exact z (I.dis i j x y b hi hj e1 e e2 q1)
      refine .ref ⟨q2.g, q2.n, q2.h, ?_⟩
      have oo := q2.o
      cases y with
      | lst ds => obtain ⟨vs, h1, h2⟩ := oo; exact ⟨vs, by rw [upd_ne zb]; exact h1, h2⟩
      | dic ds => obtain ⟨vs, h1, h2⟩ := oo; exact ⟨vs, by rw [upd_ne zb]; exact h1, h2⟩
      | _ => exact oo.elim
  dis := fun j k y z b hj hk q1 q2 q3 q4 => by
    have back : ∀ {l : Nat} {u : D}, (env.set i (some x'))[l]? = some (some u) → ∃ w, env[l]? = some (some w) := fun {l u} q => by
      by_cases zl : i = l
      · subst zl; exact ⟨x, e1⟩
      · rw [List.getElem?_set_ne zl] at q; exact ⟨u, q⟩
    obtain ⟨w1, q1⟩ := back q1
    obtain ⟨w2, q2⟩ := back q2
    exact I.dis j k w1 w2 b hj hk q1 q2 q3 q4
theorem RepN.later {S : SA} {G0 H0 G2 H2 : Hp} {d0 : Drw} (st : StR S H0 d0) (h : RepN K mg S G0 H0 G H v x) (A : Aft S G H G2 H2 d') : RepN K mg S G0 H0 G2 H2 v x := by
  cases h with
  | non => exact .non
  | lst n g h r => exact .lst n (A.gn _ (by rw [h]; exact fun z => nomatch z) g) (A.hp _ _ h (st.off n)) (r.mono A.gm)
  | dic n g h r => exact .dic n (A.gn _ (by rw [h]; exact fun z => nomatch z) g) (A.hp _ _ h (st.off n)) (r.mono A.gm)
end

/-! ### dicts -/
def keyD : D → Option Key
  | .int i => some (.inl i)
  | .str s => some (.inr s)
  | _ => none
theorem key_rep {K : PySem.W.Frag} {mg : Str → Option Value} {S : SA} {G H : Hp} {v : V} {d : D} {k : Key} (h : RepT K mg S G H v d) (e : keyD d = some k) : v = kV k := by
  cases h with
  | of r => cases r <;> first | (cases e; rfl) | cases e
  | lst => cases e
  | dic => cases e
def lookD (kvs : List (Key × D)) (k : Key) : Option D := (kvs.find? fun kv => decide (kv.1 = k)).map (·.2)
def putD (kvs : List (Key × D)) (k : Key) (v : D) : List (Key × D) :=
  if (kvs.any fun kv => decide (kv.1 = k)) = true then kvs.map (fun kv => if kv.1 = k then (kv.1, v) else kv) else kvs ++ [(k, v)]
section
variable {K : PySem.W.Frag} {mg : Str → Option Value} {S : SA} {G : Hp}
theorem RepK.look : ∀ {vs : List (Key × V)} {ds : List (Key × D)} (k : Key), RepK K mg S G vs ds → (∀ x, lookD ds k = some x → ∃ v, valV vs k = some v ∧ Rep K mg S G v x) ∧ (lookD ds k = none → valV vs k = none)
  | _, _, k, .nil => ⟨fun _ e => (nomatch e), fun _ => rfl⟩
  | _, _, k, .cons (k := q) (v := v) (d := d) (vs := vs) (ds := ds) a b => by
    by_cases h : q = k
    · have e1 : lookD ((q, d) :: ds) k = some d := by simp [lookD, List.find?_cons, h]
      have e2 : valV ((q, v) :: vs) k = some v := by simp [valV, List.find?_cons, h]
      rw [e1, e2]
      exact ⟨fun x e => (by cases e; exact ⟨v, rfl, a⟩), fun e => (nomatch e)⟩
    · have e1 : lookD ((q, d) :: ds) k = lookD ds k := by simp [lookD, List.find?_cons, h]
      have e2 : valV ((q, v) :: vs) k = valV vs k := by simp [valV, List.find?_cons, h]
      rw [e1, e2]
      exact RepK.look k b
theorem RepK.anyk : ∀ {vs : List (Key × V)} {ds : List (Key × D)} (k : Key), RepK K mg S G vs ds → (vs.any fun kv => decide (kv.1 = k)) = (ds.any fun kv => decide (kv.1 = k))
  | _, _, _, .nil => rfl
  | _, _, k, .cons a b => by rw [List.any_cons, List.any_cons, RepK.anyk k b]
theorem RepK.repl {v : V} {d : D} (k : Key) (r : Rep K mg S G v d) : ∀ {vs : List (Key × V)} {ds : List (Key × D)}, RepK K mg S G vs ds → RepK K mg S G (vs.map fun kv => if kv.1 = k then (kv.1, v) else kv) (ds.map fun kv => if kv.1 = k then (kv.1, d) else kv)
  | _, _, .nil => .nil
  | _, _, .cons (k := q) a b => by
    rw [List.map_cons, List.map_cons]
    by_cases h : q = k
    · rw [if_pos h, if_pos h]; exact .cons r (RepK.repl k r b)
    · rw [if_neg h, if_neg h]; exact .cons a (RepK.repl k r b)
theorem RepK.put {vs : List (Key × V)} {ds : List (Key × D)} {v : V} {d : D} (k : Key) (b : RepK K mg S G vs ds) (r : Rep K mg S G v d) : RepK K mg S G (putK vs k v) (putD ds k d) := by
  unfold putK putD
  rw [b.anyk k]
  split
  · exact RepK.repl k r b
  · exact b.append (.cons r .nil)
end

section
variable {X : Cx} {fr : Bool} {os os' ol : List Nat} {e a b c : Expr} {es : List Expr} {te ta tb tc : TE} {tas : TA} {m ma mb mc : Ev → M D} {ms : Ev → M (List D)} {pos p' p2 p3 : Pos} {k : Nat} {x y : Str}
def dGetD : D → D → M D
  | .dic kvs, y => match keyD y with
    | some k => match lookD kvs k with
      | some z => pure z
      | none => bad
    | none => bad
  | _, _ => bad
/-- d[y], there -/
theorem pm_getD (hr : Room k X.A) (ha : PMB X os a ta ma) (hb : PMB X os b tb mb) (hs : NoSl b := by exact fun _ _ => rfl) : PM X os (.Subscript a b pos) (tDGet ta tb) (eBin dGetD ma mb) := by
  refine ⟨pe_dget (hu_of hr) ha.p hb.p hs, fun C G σ H env d Q I w => ?_⟩
  unfold eBin at w
  rw [Wp_bind] at w
  refine ha.s C G σ H env d _ I (w.imp fun x d1 w1 v1 H1 G1 A1 r1 => ?_)
  rw [Wp_bind] at w1
  refine hb.s C G1 σ H1 env d1 _ (I.later A1) (w1.imp fun y d2 w2 v2 H2 G2 A2 r2 => ?_)
  cases x with
  | dic kvs =>
    cases hk : keyD y with
    | none => simp only [dGetD, hk] at w2; exact w2.elim
    | some kk =>
      cases hl : lookD kvs kk with
      | none => simp only [dGetD, hk, hl] at w2; exact w2.elim
      | some z =>
        simp only [dGetD, hk, hl] at w2
        obtain ⟨a, vs, e1, h1, rr, n1⟩ := (r1.later A2).dic' A2.sub
        obtain ⟨v, e2, rv⟩ := (rr.look kk).1 z hl
        exact ⟨a, v, e1, .inl ⟨vs, kk, h1, key_rep r2 hk, e2.symm⟩, w2 _ _ _ (A1.trans A2) rv⟩
  | _ => exact w2.elim
def dInD (neg : Bool) (y d : D) : M D := match d with
  | .dic kvs => match keyD y with
    | some k => pure (.bl (if neg then !(lookD kvs k).isSome else (lookD kvs k).isSome))
    | none => bad
  | _ => bad
theorem lookD_some {K : PySem.W.Frag} {mg : Str → Option Value} {S : SA} {G : Hp} {vs : List (Key × V)} {ds : List (Key × D)} {k : Key} (r : RepK K mg S G vs ds) : (valV vs k).isSome = (lookD ds k).isSome := by
  cases h : lookD ds k with
  | none => rw [(r.look k).2 h]; rfl
  | some x =>
    obtain ⟨v, e, _⟩ := (r.look k).1 x h
    rw [e]; rfl
theorem pm_inD (hr : Room k X.A) (ha : PMB X os a ta ma) (hb : PMB X os b tb mb) (hm : behindInMarks .In b = false := by rfl) : PMC X os (.Compare a [.In] [b] pos) (tDIn ta tb) (eBin (dInD false) ma mb) := by
  refine pmc_of (pc_din (hu_of hr) ha.p hb.p) hm fun C G σ H env d Q I w => ?_
  unfold eBin at w
  rw [Wp_bind] at w
  refine ha.s C G σ H env d _ I (w.imp fun x d1 w1 v1 H1 G1 A1 r1 => ?_)
  rw [Wp_bind] at w1
  refine hb.s C G1 σ H1 env d1 _ (I.later A1) (w1.imp fun y d2 w2 v2 H2 G2 A2 r2 => ?_)
  unfold dInD at w2
  split at w2
  · cases hk : keyD x with
    | none => simp only [hk] at w2; exact w2.elim
    | some kk =>
      simp only [hk] at w2
      obtain ⟨a, vs, e1, h1, rr, n1⟩ := r2.dic' A2.sub
      refine ⟨a, valV vs kk, e1, .inl ⟨vs, kk, h1, key_rep r1 hk, rfl⟩, ?_⟩
      rw [lookD_some rr]
      exact w2 _ _ _ (A1.trans A2) (.bl _)
  · exact w2.elim
theorem pm_notInD (hr : Room k X.A) (ha : PMB X os a ta ma) (hb : PMB X os b tb mb) (hm : behindInMarks .NotIn b = false := by rfl) : PMC X os (.Compare a [.NotIn] [b] pos) (tDNotIn ta tb) (eBin (dInD true) ma mb) := by
  refine pmc_of (pc_dnotin (hu_of hr) ha.p hb.p) hm fun C G σ H env d Q I w => ?_
  unfold eBin at w
  rw [Wp_bind] at w
  refine ha.s C G σ H env d _ I (w.imp fun x d1 w1 v1 H1 G1 A1 r1 => ?_)
  rw [Wp_bind] at w1
  refine hb.s C G1 σ H1 env d1 _ (I.later A1) (w1.imp fun y d2 w2 v2 H2 G2 A2 r2 => ?_)
  unfold dInD at w2
  split at w2
  · cases hk : keyD x with
    | none => simp only [hk] at w2; exact w2.elim
    | some kk =>
      simp only [hk] at w2
      obtain ⟨a, vs, e1, h1, rr, n1⟩ := r2.dic' A2.sub
      refine ⟨a, valV vs kk, e1, .inl ⟨vs, kk, h1, key_rep r1 hk, rfl⟩, ?_⟩
      rw [lookD_some rr]
      exact w2 _ _ _ (A1.trans A2) (.bl _)
  · exact w2.elim
theorem pmf_dnew : PMF X os (.Dict [] [] pos) tDNewK (eC (.dic [])) := ⟨pe_dnewK, fun C G σ H env d Q I w p hp => w _ _ _ (Aft.newF I.st I.sub hp) (.dic hp (I.sub.free hp) upd_same .nil)⟩

/-! ### one's own lists and dicts changed -/
theorem ownVar {i : Nat} {C : Ct} {env : Ev} {σ : St} {G H : Hp} {d : Drw} (hi : i ∈ os) (I : IM X.K X.mg C os env σ H G d) {z : D} (e : env[i]? = some (some z)) (hz : z ≠ .non) : ∃ a, σ[i]? = some (some (.ref a)) ∧ OwnA X.K X.mg C G H a z := I.owA hi e hz
def cApp (i : Nat) (m : Ev → M D) : Ev → M Ctl := fun env => m env >>= fun y => match env[i]? with
  | some (some (.lst xs)) => guardB (decide (xs.length < sizeLine)) (pure (.nx (env.set i (some (.lst (xs ++ [y]))))))
  | _ => bad
theorem ownL_some {i : Nat} {env : Ev} {f : List D → M Ctl} {d : Drw} {P : Ctl → Drw → Prop} (w : Wp ((match env[i]? with
  | some (some (.lst xs)) => f xs
  | _ => bad : M Ctl) d) P) : ∃ xs, env[i]? = some (some (.lst xs)) ∧ Wp (f xs d) P := by
  cases h : env[i]? with
  | none => rw [h] at w; exact w.elim
  | some q =>
    rw [h] at w
    cases q with
    | none => exact w.elim
    | some z =>
      cases z with
      | lst xs => exact ⟨xs, rfl, w⟩
      | _ => exact w.elim
theorem ownD_some {i : Nat} {env : Ev} {f : List (Key × D) → M Ctl} {d : Drw} {P : Ctl → Drw → Prop} (w : Wp ((match env[i]? with
  | some (some (.dic xs)) => f xs
  | _ => bad : M Ctl) d) P) : ∃ xs, env[i]? = some (some (.dic xs)) ∧ Wp (f xs d) P := by
  cases h : env[i]? with
  | none => rw [h] at w; exact w.elim
  | some q =>
    rw [h] at w
    cases q with
    | none => exact w.elim
    | some z =>
      cases z with
      | dic xs => exact ⟨xs, rfl, w⟩
      | _ => exact w.elim
/-- x.append(e) -/
theorem pms_app (i : Nat) (h : PM X os e te m) (hi : i ∈ os := by decide) (hN : X.N[i]? = some x := by rfl) (hv : Vis X.env.scope x := by first | exact Or.inl rfl | exact Or.inr (Or.inl rfl) | exact Or.inr (Or.inr rfl)) (hd : (x == ("__debug__" : Str)) = false := by decide) (hcd : (x == ("__classdict__" : Str)) = false := by decide)
    (hbase : attributeBase (.Name x p2) "append" X.env (eval (.Name x p2) X.env) = eval (.Name x p2) X.env := by rfl)
    (hfew : ((backTo p3 (starEach [e] X.env)).all (fun x => !x.1) && (backToKw p3 (keywordEach [] X.env)).all (fun x => x.1.isSome) && decide ([e].length + ([] : List Keyword).length + (if ([] : List Keyword).isEmpty then 0 else 1) < 30)) = true := by rfl)
    (hline : (p'.endLine == p3.line) = true := by rfl) (hst : starEach [e] X.env = (false, eval e X.env) :: starEach [] X.env := by rfl) (hplain : (backTo p3 (starEach [] X.env)).any (·.1) = false := by rfl)
    (hs : swapsWith (.Call (.Attribute (.Name x p2) "append" p') [e] [] p3) none pos.line X.env = pure false := by rfl) :
    PMS X fr os os ol (.Expr (.Call (.Attribute (.Name x p2) "append" p') [e] [] p3) pos) (cApp i m) := by
  refine ⟨_, ps_expr (pe_bm PySem.F.plainAttrs_list PySem.F.slot_list_append PySem.F.type_list_append mt_append (pe_var (i := i) hN hv hd hcd) (pa_cons h.p pa_nil hst) hbase hfew hline hst hplain) hs, fun C G σ H env d D I w => ?_⟩
  unfold cApp at w
  rw [Wp_bind] at w
  cases hm : m env d with
  | bad => rw [hm] at w; exact w.elim
  | ok y d1 =>
    rw [hm] at w
    obtain ⟨xs, ee, w1⟩ := ownL_some (f := fun xs => guardB (decide (xs.length < sizeLine)) (pure (.nx (env.set i (some (.lst (xs ++ [y]))))))) w
    rw [Wp_guard] at w1
    obtain ⟨a, e2, oa⟩ := I.owA hi ee (fun z => nomatch z)
    obtain ⟨vs, h1, rv⟩ := oa.o
    refine ⟨_, e2, .inl ⟨rfl, vs, .inl (.inl h1)⟩, ?_⟩
    refine h.s C G σ H env d _ I ?_
    rw [hm]
    intro v H1 G1 A r
    have I1 := I.later A
    have h1' := A.hp a _ h1 oa.n
    refine ⟨a, vs, v, rfl, rfl, h1', by rw [rv.length]; exact of_decide_eq_true w1.1, ?_⟩
    obtain ⟨a2, e3, oa2⟩ := I1.owA hi ee (fun z => nomatch z)
    rw [e2] at e3; cases e3
    exact w1.2 σ _ G1 A.gm (I1.mut hi ee e2 oa2 ⟨_, upd_same, (rv.mono A.gm).append (.one r)⟩)
def cSetL (i : Nat) (mi m : Ev → M D) : Ev → M Ctl := fun env => m env >>= fun y => mi env >>= fun j => match j with
  | .int j => (match env[i]? with
    | some (some (.lst xs)) => (match ixN xs.length j with
      | some q => pure (.nx (env.set i (some (.lst (xs.set q y)))))
      | none => bad)
    | _ => bad)
  | _ => bad
/-- x[j] = e, x one's own list -/
theorem pms_setL (i : Nat) (h : PM X os e te m) (hj : PMB X os b tb mb) (hi : i ∈ os := by decide) (hN : X.N[i]? = some x := by rfl) (hv : Vis X.env.scope x := by first | exact Or.inl rfl | exact Or.inr (Or.inl rfl) | exact Or.inr (Or.inr rfl)) (hd : (x == ("__debug__" : Str)) = false := by decide) (hcd : (x == ("__classdict__" : Str)) = false := by decide)
    (ha : ∀ v, assign (.Subscript (.Name x p2) b p3) X.env v = (do
      let ov ← holding [v] (eval (.Name x p2) X.env)
      let iv ← holding [v, ov] (eval b X.env)
      standAt p3
      holding [v, ov, iv] (setItem ov iv v)
      release [v, ov, iv] []) := by intro _; rfl)
    (hs : swapsWithSole [.Subscript (.Name x p2) b p3] e pos.line X.env = pure false := by rfl) (hw : swappedStores [.Subscript (.Name x p2) b p3] e X.env = pure none := by rfl) (h1 : (assignEach [.Subscript (.Name x p2) b p3] X.env).map (·.2) = [assign (.Subscript (.Name x p2) b p3) X.env] := by rfl) :
    PMS X fr os os ol (.Assign [.Subscript (.Name x p2) b p3] e pos) (cSetL i mb m) := by
  refine ⟨_, ps_asg h.p (pg_sub (pe_var (i := i) hN hv hd hcd) hj.p set_list ha) hs hw h1, fun C G σ H env d D I w => ?_⟩
  unfold cSetL at w
  rw [Wp_bind] at w
  refine h.s C G σ H env d _ I (w.imp fun y d1 w1 v H1 G1 A r => ?_)
  have I1 := I.later A
  rw [Wp_bind] at w1
  cases hm : mb env d1 with
  | bad => rw [hm] at w1; exact w1.elim
  | ok jd d2 =>
    rw [hm] at w1
    cases jd with
    | int j =>
      obtain ⟨xs, ee, w2⟩ := ownL_some (f := fun xs => match ixN xs.length j with
        | some q => pure (.nx (env.set i (some (.lst (xs.set q y)))))
        | none => bad) w1
      obtain ⟨a, e2, oa⟩ := I1.owA hi ee (fun z => nomatch z)
      obtain ⟨vs, hh, rv⟩ := oa.o
      refine ⟨_, e2, hj.s C G1 σ H1 env d1 _ I1 ?_⟩
      rw [hm]
      intro vj H2 G2 A2 rj
      have I2 := I1.later A2
      have hh' := A2.hp a _ hh oa.n
      cases hq : ixN xs.length j with
      | none => simp only [hq] at w2; exact w2.elim
      | some q =>
        simp only [hq] at w2
        refine ⟨a, vs, j, q, rfl, rj.int, hh', by rw [rv.length]; exact hq, ?_⟩
        obtain ⟨a2, e3, oa2⟩ := I2.owA hi ee (fun z => nomatch z)
        rw [e2] at e3; cases e3
        exact w2 σ _ G2 (A.gm.trans A2.gm) (I2.mut hi ee e2 oa2 ⟨_, upd_same, Reps.set (r.mono A2.gm) q (rv.mono A2.gm)⟩)
    | _ => exact w1.elim
def cSetD (i : Nat) (mk m : Ev → M D) : Ev → M Ctl := fun env => m env >>= fun y => mk env >>= fun k => match keyD k with
  | some k => (match env[i]? with
    | some (some (.dic xs)) => guardB (decide (xs.length < sizeLine)) (pure (.nx (env.set i (some (.dic (putD xs k y))))))
    | _ => bad)
  | none => bad
/-- x[k] = e, x one's own dict -/
theorem pms_setD (i : Nat) (hr : Room k X.A) (h : PM X os e te m) (hj : PMB X os b tb mb) (hi : i ∈ os := by decide) (hN : X.N[i]? = some x := by rfl) (hv : Vis X.env.scope x := by first | exact Or.inl rfl | exact Or.inr (Or.inl rfl) | exact Or.inr (Or.inr rfl)) (hd : (x == ("__debug__" : Str)) = false := by decide) (hcd : (x == ("__classdict__" : Str)) = false := by decide)
    (hs : swapsWith e (some (.Subscript (.Name x p2) b p3)) pos.line X.env = pure false := by rfl) :
    PMS X fr os os ol (.Assign [.Subscript (.Name x p2) b p3] e pos) (cSetD i mb m) := by
  refine ⟨_, ps_dput (hu_of hr) (pe_var (i := i) hN hv hd hcd) hj.p h.p hs, fun C G σ H env d D I w => ?_⟩
  unfold cSetD at w
  rw [Wp_bind] at w
  refine h.s C G σ H env d _ I (w.imp fun y d1 w1 v H1 G1 A r => ?_)
  have I1 := I.later A
  rw [Wp_bind] at w1
  cases hm : mb env d1 with
  | bad => rw [hm] at w1; exact w1.elim
  | ok jd d2 =>
    rw [hm] at w1
    cases hk : keyD jd with
    | none =>
      have w1 : Wp ((match keyD jd with
        | some k => (match env[i]? with
          | some (some (.dic xs)) => guardB (decide (xs.length < sizeLine)) (pure (.nx (env.set i (some (.dic (putD xs k y))))))
          | _ => bad)
        | none => bad : M Ctl) d2) _ := w1
      rw [hk] at w1
      exact w1.elim
    | some kk =>
      have w1 : Wp ((match keyD jd with
        | some k => (match env[i]? with
          | some (some (.dic xs)) => guardB (decide (xs.length < sizeLine)) (pure (.nx (env.set i (some (.dic (putD xs k y))))))
          | _ => bad)
        | none => bad : M Ctl) d2) _ := w1
      rw [hk] at w1
      obtain ⟨xs, ee, w2⟩ := ownD_some (f := fun xs => guardB (decide (xs.length < sizeLine)) (pure (.nx (env.set i (some (.dic (putD xs kk y))))))) w1
      rw [Wp_guard] at w2
      obtain ⟨a, e2, oa⟩ := I1.owA hi ee (fun z => nomatch z)
      obtain ⟨vs, hh, rv⟩ := oa.o
      refine ⟨_, e2, hj.s C G1 σ H1 env d1 _ I1 ?_⟩
      rw [hm]
      intro vj H2 G2 A2 rj
      have I2 := I1.later A2
      have hh' := A2.hp a _ hh oa.n
      refine ⟨a, _, rfl, .inl ⟨vs, kk, hh', key_rep rj hk, by rw [rv.length]; exact of_decide_eq_true w2.1, rfl⟩, ?_⟩
      obtain ⟨a2, e3, oa2⟩ := I2.owA hi ee (fun z => nomatch z)
      rw [e2] at e3; cases e3
      exact w2.2 σ _ G2 (A.gm.trans A2.gm) (I2.mut hi ee e2 oa2 ⟨_, upd_same, (rv.mono A2.gm).put kk (r.mono A2.gm)⟩)
def cAugD (i : Nat) (mk m : Ev → M D) : Ev → M Ctl := fun env => mk env >>= fun k => match keyD k with
  | some k => (match env[i]? with
    | some (some (.dic xs)) => (match lookD xs k with
      | some (.int z) => m env >>= fun y => (match y with
        | .int y => guardB (decide (xs.length < sizeLine)) (pure (.nx (env.set i (some (.dic (putD xs k (.int (z + y))))))))
        | _ => bad)
      | _ => bad)
    | _ => bad)
  | none => bad
/-- x[k] += e, ints, x one's own dict -/
theorem pms_augD (i : Nat) (hr : Room k X.A) (h : PM X os e te m) (hj : PMB X os b tb mb) (hi : i ∈ os := by decide) (hN : X.N[i]? = some x := by rfl) (hv : Vis X.env.scope x := by first | exact Or.inl rfl | exact Or.inr (Or.inl rfl) | exact Or.inr (Or.inr rfl)) (hd : (x == ("__debug__" : Str)) = false := by decide) (hcd : (x == ("__classdict__" : Str)) = false := by decide)
    (ha : ∀ ov iv new, augStore b ov iv new = (do holding [new, ov, iv] (setItem ov iv new); release [new, ov, iv] []; pure .next) := by intro _ _ _; rfl) :
    PMS X fr os os ol (.AugAssign (.Subscript (.Name x p2) b p3) .Add e pos) (cAugD i mb m) := by
  refine ⟨_, ps_daug (hu_of hr) (pe_var (i := i) hN hv hd hcd) hj.p h.p in_add ha, fun C G σ H env d D I w => ?_⟩
  unfold cAugD at w
  rw [Wp_bind] at w
  cases hm : mb env d with
  | bad => rw [hm] at w; exact w.elim
  | ok jd d1 =>
    rw [hm] at w
    cases hk : keyD jd with
    | none =>
      have w1 : Wp ((match keyD jd with
        | some k => (match env[i]? with
          | some (some (.dic xs)) => (match lookD xs k with
            | some (.int z) => m env >>= fun y => (match y with
              | .int y => guardB (decide (xs.length < sizeLine)) (pure (.nx (env.set i (some (.dic (putD xs k (.int (z + y))))))))
              | _ => bad)
            | _ => bad)
          | _ => bad)
        | none => bad : M Ctl) d1) _ := w
      rw [hk] at w1
      exact w1.elim
    | some kk =>
      have w1 : Wp ((match keyD jd with
        | some k => (match env[i]? with
          | some (some (.dic xs)) => (match lookD xs k with
            | some (.int z) => m env >>= fun y => (match y with
              | .int y => guardB (decide (xs.length < sizeLine)) (pure (.nx (env.set i (some (.dic (putD xs k (.int (z + y))))))))
              | _ => bad)
            | _ => bad)
          | _ => bad)
        | none => bad : M Ctl) d1) _ := w
      rw [hk] at w1
      obtain ⟨xs, ee, w2⟩ := ownD_some (f := fun xs => match lookD xs kk with
            | some (.int z) => m env >>= fun y => (match y with
              | .int y => guardB (decide (xs.length < sizeLine)) (pure (.nx (env.set i (some (.dic (putD xs kk (.int (z + y))))))))
              | _ => bad)
            | _ => bad) w1
      obtain ⟨a, e2, oa⟩ := I.owA hi ee (fun z => nomatch z)
      obtain ⟨vs, hh, rv⟩ := oa.o
      refine ⟨_, e2, hj.s C G σ H env d _ I ?_⟩
      rw [hm]
      intro vj H1 G1 A1 rj
      have I1 := I.later A1
      have hh1 := A1.hp a _ hh oa.n
      cases hz : lookD xs kk with
      | none => simp only [hz] at w2; exact w2.elim
      | some zz =>
       cases zz with
       | int z =>
        simp only [hz] at w2
        obtain ⟨vz, ez, rz⟩ := ((rv.mono A1.gm).look kk).1 _ hz
        refine ⟨a, vz, rfl, .inl ⟨vs, kk, .inl hh1, key_rep rj hk, ez.symm⟩, ?_⟩
        rw [Wp_bind] at w2
        refine h.s C G1 σ H1 env d1 _ I1 (w2.imp fun y d2 w3 v H2 G2 A2 r => ?_)
        have I2 := I1.later A2
        have hh2 := A2.hp a _ hh1 oa.n
        split at w3
        · rename_i yy
          rw [Wp_guard] at w3
          cases rz
          cases r
          refine ⟨z, yy, rfl, rfl, _, .inl ⟨vs, kk, hh2, key_rep rj hk, by rw [rv.length]; exact of_decide_eq_true w3.1, rfl⟩, ?_⟩
          obtain ⟨a2, e3, oa2⟩ := I2.owA hi ee (fun z => nomatch z)
          rw [e2] at e3; cases e3
          exact w3.2 σ _ G2 (A1.gm.trans A2.gm) (I2.mut hi ee e2 oa2 ⟨_, upd_same, ((rv.mono A1.gm).mono A2.gm).put kk (.int _)⟩)
        · exact w3.elim
       | _ => simp only [hz] at w2; exact w2.elim
end
end Mir
end
section
set_option Elab.async false
set_option linter.all false
set_option maxRecDepth 100000
set_option maxHeartbeats 400000
/-! Mir, part H: calls with two things, chains, several names at once, joins, dicts made. -/
namespace Mir
open PySem PySem.Spec PyProof.Rows L2

section
variable {X : Cx} {fr : Bool} {os os' ol : List Nat} {e a b c : Expr} {es : List Expr} {te ta tb tc : TE} {tas : TA} {m ma mb mc : Ev → M D} {ms : Ev → M (List D)} {pos p' p2 p3 : Pos} {k : Nat} {x y : Str}
def SimC2 (K : PySem.W.Frag) (mg : Str → Option Value) (r : List V → Hp → VK → Prop) (g : D → D → M D) : Prop := ∀ S G H d x y dx dy Q, StR S H d → Sub S G H → RepT K mg S G H x dx → RepT K mg S G H y dy →
  Wp (g dx dy d) (fun z d' => ∀ v H' G', Aft S G H G' H' d' → Rep K mg S G' v z → Q v H') → r [x, y] H Q
theorem simE_c2 {K : PySem.W.Frag} {mg : Str → Option Value} {C : Ct} {r : List V → Hp → VK → Prop} {g : D → D → M D} (sa : SimB K mg C os ta ma) (sb : SimB K mg C os tb mb) (hs : SimC2 K mg r g) : SimE K mg C os (tCB r (tCons ta (tCons tb tNil))) (eBin g ma mb) := by
  intro G σ H env d Q I w
  unfold eBin at w
  rw [Wp_bind] at w
  refine sa G σ H env d _ I (w.imp fun x d1 w1 v1 H1 G1 A1 r1 => ?_)
  rw [Wp_bind] at w1
  refine sb G1 σ H1 env d1 _ (I.later A1) (w1.imp fun y d2 w2 v2 H2 G2 A2 r2 => ?_)
  exact hs C.S G2 H2 d2 v1 v2 x y Q A2.st A2.sub (r1.later A2) r2 (w2.imp fun z d3 kk v H' G' A3 r3 => kk v H' G' (A1.trans (A2.trans A3)) r3)
def dMin : D → D → M D
  | .int i, .int j => pure (.int (if j < i then j else i))
  | _, _ => bad
def dMax : D → D → M D
  | .int i, .int j => pure (.int (if j > i then j else i))
  | _, _ => bad
theorem pm_min (hc : X.calm = true) (hg : Gl X "min") (hm : X.mg "min" = none) (ha : PMB X os a ta ma) (hb : PMB X os b tb mb) (he : starEach [a, b] X.env = (false, eval a X.env) :: starEach [b] X.env := by rfl) (he2 : starEach [b] X.env = (false, eval b X.env) :: starEach [] X.env := by rfl) (hpl : (backTo pos (starEach [b] X.env)).any (·.1) = false := by rfl) :
    PM X os (.Call (.Name "min" p') [a, b] [] pos) (tCB (fun xs H Q => ∃ i j, xs = [.int i, .int j] ∧ Q (.int (if j < i then j else i)) H) (tCons ta (tCons tb tNil))) (eBin dMin ma mb) :=
  ⟨pe_callB (call_min2 hc) hg hm (by decide +kernel) (pa_cons ha.p (pa_cons hb.p pa_nil he2) he) (by decide) (by decide) he hpl, fun C => simE_c2 (ha.s C) (hb.s C) fun S G H d x y dx dy Q st sb rx ry w => by
    unfold dMin at w
    split at w
    · exact ⟨_, _, by rw [rx.int, ry.int], w _ _ _ (Aft.refl st sb) (.int _)⟩
    · exact w.elim⟩
theorem pm_max (hc : X.calm = true) (hg : Gl X "max") (hm : X.mg "max" = none) (ha : PMB X os a ta ma) (hb : PMB X os b tb mb) (he : starEach [a, b] X.env = (false, eval a X.env) :: starEach [b] X.env := by rfl) (he2 : starEach [b] X.env = (false, eval b X.env) :: starEach [] X.env := by rfl) (hpl : (backTo pos (starEach [b] X.env)).any (·.1) = false := by rfl) :
    PM X os (.Call (.Name "max" p') [a, b] [] pos) (tCB (fun xs H Q => ∃ i j, xs = [.int i, .int j] ∧ Q (.int (if j > i then j else i)) H) (tCons ta (tCons tb tNil))) (eBin dMax ma mb) :=
  ⟨pe_callB (call_max2 hc) hg hm (by decide +kernel) (pa_cons ha.p (pa_cons hb.p pa_nil he2) he) (by decide) (by decide) he hpl, fun C => simE_c2 (ha.s C) (hb.s C) fun S G H d x y dx dy Q st sb rx ry w => by
    unfold dMax at w
    split at w
    · exact ⟨_, _, by rw [rx.int, ry.int], w _ _ _ (Aft.refl st sb) (.int _)⟩
    · exact w.elim⟩
/-! ### a <= b <= c -/
def eChain (g g' : D → D → M D) (ma mb mc : Ev → M D) : Ev → M D := fun env => ma env >>= fun x => mb env >>= fun y => g x y >>= fun z => match z with
  | .bl true => mc env >>= fun w => g' y w
  | .bl false => pure (.bl false)
  | _ => bad
theorem pm_chain {op op' : CmpOp} {r r' : R2} {g g' : D → D → M D} (ho : OpR X (compareOp op) r) (ho' : OpR X (compareOp op') r') (hr : SimR X.K X.mg r g) (hr' : SimR X.K X.mg r' g') (ha : PMB X os a ta ma) (hb : PMB X os b tb mb) (hc : PMB X os c tc mc)
    (hm : lastMarks [op, op'] [b, c] = false := by with_unfolding_all rfl) : PMC X os (.Compare a [op, op'] [b, c] pos) (tChain r r' ta tb tc) (eChain g g' ma mb mc) := by
  have sim : ∀ C, SimE X.K X.mg C os (tChain r r' ta tb tc) (eChain g g' ma mb mc) := fun C G σ H env d Q I w => by
    unfold eChain at w
    rw [Wp_bind] at w
    refine ha.s C G σ H env d _ I (w.imp fun x d1 w1 v1 H1 G1 A1 r1 => ?_)
    rw [Wp_bind] at w1
    refine hb.s C G1 σ H1 env d1 _ (I.later A1) (w1.imp fun y d2 w2 v2 H2 G2 A2 r2 => ?_)
    rw [Wp_bind] at w2
    refine hr C.S G2 H2 d2 v1 v2 x y _ A2.st A2.sub (r1.later A2) r2 (w2.imp fun z d3 w3 v3 H3 G3 A3 r3 => ?_)
    split at w3
    · cases r3
      refine ⟨true, rfl, iteT ?_⟩
      rw [Wp_bind] at w3
      refine hc.s C G3 σ H3 env d3 _ (I.later (A1.trans (A2.trans A3))) (w3.imp fun u d4 w4 v4 H4 G4 A4 r4 => ?_)
      exact hr' C.S G4 H4 d4 v2 v4 y u Q A4.st A4.sub ((r2.later A3).later A4) r4 (w4.imp fun z d5 kk v H' G' A5 r5 => kk v H' G' (A1.trans (A2.trans (A3.trans (A4.trans A5)))) r5)
    · cases r3
      exact ⟨false, rfl, iteF (w3 _ _ _ (A1.trans (A2.trans A3)) (.bl _))⟩
    · exact w3.elim
  exact ⟨⟨pe_chain ho ho' ha.p hb.p hc.p hm, sim⟩, ⟨pt_chain ho ho' ha.p hb.p hc.p hm, fun C => simT_val (sim C)⟩⟩
theorem pm_leLe (ha : PMB X os a ta ma) (hb : PMB X os b tb mb) (hc : PMB X os c tc mc) (hm : lastMarks [.LtE, .LtE] [b, c] = false := by with_unfolding_all rfl) : PMC X os (.Compare a [.LtE, .LtE] [b, c] pos) (tChain (rI0 fun i j => .bl (decide (i ≤ j))) (rI0 fun i j => .bl (decide (i ≤ j))) ta tb tc) (eChain dLe dLe ma mb mc) :=
  pm_chain op_le op_le (simR_I0 fun _ _ _ _ => .bl _) (simR_I0 fun _ _ _ _ => .bl _) ha hb hc hm
theorem pm_leLt (ha : PMB X os a ta ma) (hb : PMB X os b tb mb) (hc : PMB X os c tc mc) (hm : lastMarks [.LtE, .Lt] [b, c] = false := by with_unfolding_all rfl) : PMC X os (.Compare a [.LtE, .Lt] [b, c] pos) (tChain (rI0 fun i j => .bl (decide (i ≤ j))) (rI0 fun i j => .bl (decide (i < j))) ta tb tc) (eChain dLe dLt ma mb mc) :=
  pm_chain op_le op_lt (simR_I0 fun _ _ _ _ => .bl _) (simR_I0 fun _ _ _ _ => .bl _) ha hb hc hm
end

/-! ### several names at once -/
section
variable (K : PySem.W.Frag) (mg : Str → Option Value)
/-- b: a new one, else what may be shared -/
def RepX (f : Bool) (S : SA) (G0 H0 G H : Hp) (v : V) (x : D) : Prop := match f with
  | true => RepN K mg S G0 H0 G H v x
  | false => Rep K mg S G v x
def SimX (f : Bool) (C : Ct) (os : List Nat) (te : TE) (m : Ev → M D) : Prop := ∀ G σ H env d Q, IM K mg C os env σ H G d →
  Wp (m env d) (fun x d' => ∀ v H' G', Aft C.S G H G' H' d' → RepX K mg f C.S G H G' H' v x → Q v H') → te σ H Q
end
structure PMX (f : Bool) (X : Cx) (os : List Nat) (e : Expr) (te : TE) (m : Ev → M D) : Prop where
  p : PE X e te
  s : ∀ C, SimX X.K X.mg f C os te m
theorem PM.x {X : Cx} {os : List Nat} {e : Expr} {te : TE} {m : Ev → M D} (h : PM X os e te m) : PMX false X os e te m := ⟨h.p, h.s⟩
theorem PMF.x {X : Cx} {os : List Nat} {e : Expr} {te : TE} {m : Ev → M D} (h : PMF X os e te m) : PMX true X os e te m := ⟨h.p, h.s⟩
section
variable {K : PySem.W.Frag} {mg : Str → Option Value} {C : Ct} {os : List Nat} {env : Ev} {σ : St} {G H G1 H1 G2 H2 : Hp} {d d' : Drw} {v : V} {x : D} {i : Nat} {f : Bool}
theorem RepX.later {S : SA} {d0 : Drw} (st : StR S H d0) (h : RepX K mg f S G H G1 H1 v x) (A : Aft S G1 H1 G2 H2 d') : RepX K mg f S G H G2 H2 v x := by
  cases f with
  | true => exact RepN.later st h A
  | false => exact Rep.mono A.gm h
theorem RepX.pull {S : SA} {d0 : Drw} (A : Aft S G H G1 H1 d0) (h : RepX K mg f S G1 H1 G2 H2 v x) : RepX K mg f S G H G2 H2 v x := by
  cases f with
  | true => exact RepN.pull A h
  | false => exact h
theorem RepN.addr {S : SA} {a : Addr} (h : RepN K mg S G H G1 H1 v x) (e : v = .ref a) : H a = none ∧ H1 a ≠ none := by
  cases h with
  | non => cases e
  | lst n g h r => cases e; exact ⟨n, by rw [h]; exact fun z => nomatch z⟩
  | dic n g h r => cases e; exact ⟨n, by rw [h]; exact fun z => nomatch z⟩
theorem IM.set_x (I : IM K mg C os env σ H1 G1 d) (st : StR C.S H d') (h0 : ∀ b, H b = none → C.H b = none) (hf : if f = true then i ∈ os else i ∉ os) (h : RepX K mg f C.S G H G1 H1 v x)
    (hu : f = true → ∀ a, v = .ref a → ∀ j y, j ∈ os → j ≠ i → env[j]? = some (some y) → σ[j]? ≠ some (some (.ref a))) : IM K mg C os (env.set i (some x)) (σ.set i (some v)) H1 G1 d := by
  cases f with
  | true =>
    rw [if_pos rfl] at hf
    have h : RepN K mg C.S G H G1 H1 v x := h
    cases h with
    | non => exact I.set_non hf
    | lst n g hh r => exact I.set_ow hf ⟨g, st.off n, h0 _ n, ⟨_, hh, r⟩⟩ (hu rfl _ rfl)
    | dic n g hh r => exact I.set_ow hf ⟨g, st.off n, h0 _ n, ⟨_, hh, r⟩⟩ (hu rfl _ rfl)
  | false =>
    rw [if_neg Bool.false_ne_true] at hf
    exact I.set_sh hf h
/-- where one's own objects stand in H, a new one stands apart -/
theorem IM.apart (I : IM K mg C os env σ H G d) {a : Addr} (n : H a = none) {j : Nat} {y : D} (hj : j ∈ os) (e : env[j]? = some (some y)) : σ[j]? ≠ some (some (.ref a)) := fun z => by
  obtain ⟨b, e1, o⟩ := I.ow j y hj e
  rw [z] at e1
  cases e1
  cases o with
  | ref o => exact o.o.at n
theorem get_set_ne {α : Type} {l : List α} {i j : Nat} {v : α} (h : j ≠ i) : (l.set i v)[j]? = l[j]? := List.getElem?_set_ne (Ne.symm h)
end
section
variable {X : Cx} {fr : Bool} {os os' ol : List Nat} {a b c : Expr} {ta tb tc : TE} {ma mb mc : Ev → M D} {pos : Pos} {x y z : Str} {f1 f2 f3 : Bool}
def cPar2 (i j : Nat) (ma mb : Ev → M D) : Ev → M Ctl := fun env => ma env >>= fun x => mb env >>= fun y => pure (.nx ((env.set i (some x)).set j (some y)))
/-- x, y = a, b (two local names) -/
theorem pms_par2 (i j : Nat) {px py pt : Pos} {kt k2 pt2} (hc : X.calm = true) (hN : X.N.Nodup) (hi : X.N[i]? = some x) (hj : X.N[j]? = some y) (hij : i ≠ j) (hx : X.env.scope.names.lookup x = some .local) (hy : X.env.scope.names.lookup y = some .local)
    (ha : PMX f1 X os a ta ma) (hb : PMX f2 X os b tb mb) (o1 : if f1 = true then i ∈ os else i ∉ os) (o2 : if f2 = true then j ∈ os else j ∉ os)
    (hw : swappedStores [.Tuple [.Name x px, .Name y py] kt pt] (.Tuple [a, b] k2 pt2) X.env = pure (some [x, y])) (hs : swapsWithSole [.Tuple [.Name x px, .Name y py] kt pt] (.Tuple [a, b] k2 pt2) pos.line X.env = pure false := by rfl)
    (he : starEach [a, b] X.env = (false, eval a X.env) :: starEach [b] X.env := by rfl) (he2 : starEach [b] X.env = (false, eval b X.env) :: starEach [] X.env := by rfl) :
    PMS X fr os os ol (.Assign [.Tuple [.Name x px, .Name y py] kt pt] (.Tuple [a, b] k2 pt2) pos) (cPar2 i j ma mb) := by
  refine ⟨_, ps_par hc hN hi hj hij hx hy (pa_cons ha.p (pa_cons hb.p pa_nil he2) he) hw hs, fun C G σ H env d D I w => ?_⟩
  unfold cPar2 at w
  rw [Wp_bind] at w
  refine ha.s C G σ H env d _ I (w.imp fun x d1 w1 v1 H1 G1 A1 r1 => ?_)
  rw [Wp_bind] at w1
  refine hb.s C G1 σ H1 env d1 _ (I.later A1) (w1.imp fun y d2 w2 v2 H2 G2 A2 r2 => ⟨v1, v2, rfl, ?_⟩)
  have I2 := I.later (A1.trans A2)
  have h0 : ∀ b, H b = none → C.H b = none := fun b hb => I.aft.free hb
  have J1 := I2.set_x (i := i) I.st h0 o1 (r1.later I.st A2) fun hf q eq l u hl _ he => by
    subst hf
    have n1 := (RepN.addr r1 eq).1
    exact I.apart n1 hl he
  refine w2 _ H2 G2 (A1.trans A2).gm (J1.set_x (i := j) I.st h0 o2 (RepX.pull A1 r2) fun hf q eq l u hl hlj he => ?_)
  subst hf
  have n1 := (RepN.addr r2 eq).1
  by_cases zl : l = i
  · subst zl
    have hlen : l < env.length := by
      have := (List.getElem?_eq_some_iff.mp he).1
      rwa [List.length_set] at this
    rw [List.getElem?_set_self (by rw [I.len]; exact hlen)]
    intro zq
    have zq : v1 = .ref q := by cases zq; rfl
    cases f1 with
    | true => exact (RepN.addr r1 zq).2 n1
    | false =>
      rw [if_neg Bool.false_ne_true] at o1
      exact o1 hl
  · rw [get_set_ne zl] at he ⊢
    exact I.apart (A1.free n1) hl he
end

/-! ### join -/
def strsD : List D → Option (List Str)
  | [] => some []
  | .str b :: r => (strsD r).map (b :: ·)
  | _ => none
theorem strs_rep {K : PySem.W.Frag} {mg : Str → Option Value} {S : SA} {G : Hp} : ∀ {vs : List V} {ds : List D} {bs : List Str}, Reps K mg S G vs ds → strsD ds = some bs → vs = bs.map V.str
  | _, _, _, .nil, e => by cases e; rfl
  | _, _, _, .cons (.str b) t, e => by
    rw [strsD, Option.map_eq_some_iff] at e
    obtain ⟨r, e1, e2⟩ := e
    subst e2
    rw [strs_rep t e1]; rfl
  | _, _, _, .cons .non _, e | _, _, _, .cons (.bl _) _, e | _, _, _, .cons (.int _) _, e | _, _, _, .cons (.lst _ _) _, e | _, _, _, .cons (.ro _ _) _, e | _, _, _, .cons (.tup _ _) _, e | _, _, _, .cons (.dic _ _) _, e | _, _, _, .cons (.obj _ _ _) _, e | _, _, _, .cons .st _, e | _, _, _, .cons (.ln _ _) _, e | _, _, _, .cons (.plt _ _ _) _, e => by cases e
def dJoin : D → D → M D
  | .str a, .lst xs => match strsD xs with
    | some ys => guardB (decide ((ys.map (·.length)).sum + ys.length * a.length ≤ 16777216)) (pure (.str (Txt.join a ys)))
    | none => bad
  | _, _ => bad
section
variable {X : Cx} {os : List Nat} {o e : Expr} {to te : TE} {mo m : Ev → M D}
theorem pm_join {apos pos : Pos} (ho : PMB X os o to mo) (he : PMB X os e te m) (hs : starEach [e] X.env = [(false, eval e X.env)] := by rfl) (hbase : attributeBase o "join" X.env (eval o X.env) = eval o X.env := by rfl) (hline : (apos.endLine == pos.line) = true := by rfl) :
    PM X os (.Call (.Attribute o "join" apos) [e] [] pos) (tM1 (fun x xs H Q => ∃ a p, ∃ ys : List Str, x = .str a ∧ xs = [.ref p] ∧ (SqL X.K H p (ys.map V.str) ∨ SqT X.K H p (ys.map V.str)) ∧
      (ys.map (·.length)).sum + ys.length * a.length ≤ 16777216 ∧ Q (.str (Txt.join a ys)) H) to te) (eBin dJoin mo m) := by
  refine ⟨pe_join ho.p he.p hs hbase hline, fun C G σ H env d Q I w => ?_⟩
  unfold eBin at w
  rw [Wp_bind] at w
  refine ho.s C G σ H env d _ I (w.imp fun x d1 w1 v1 H1 G1 A1 r1 => ?_)
  rw [Wp_bind] at w1
  cases x with
  | str z =>
    refine ⟨⟨z, r1.str⟩, ?_⟩
    refine he.s C G1 σ H1 env d1 _ (I.later A1) (w1.imp fun y d2 w2 v2 H2 G2 A2 r2 => ?_)
    cases y with
    | lst xs =>
      cases hz : strsD xs with
      | none => simp only [dJoin, hz] at w2; exact w2.elim
      | some ys =>
        simp only [dJoin, hz] at w2
        rw [Wp_guard] at w2
        obtain ⟨a, vs, e1, h1, rr, n1⟩ := r2.lst' A2.sub
        exact ⟨z, a, ys, r1.str, by rw [e1], .inl (.inl (.inl (by rw [h1, strs_rep rr hz]))), of_decide_eq_true w2.1, w2.2 _ _ _ (A1.trans A2) (.str _)⟩
    | _ => exact w2.elim
  | _ =>
    exact (show False from by
      have : ∀ (r : R D) (P : D → Drw → Prop), Wp ((m env >>= fun y => (bad : M D)) d1) P → False := fun _ P h => by
        rw [Wp_bind] at h
        cases hx : m env d1 with
        | bad => rw [hx] at h; exact h
        | ok q qs => rw [hx] at h; exact h
      exact this (.bad) _ (by rw [Wp_bind]; exact w1)).elim
end

/-! ### dict(pairs) -/
def pairD : D → Option (Key × D)
  | .tup [k, v] => (keyD k).map fun k => (k, v)
  | _ => none
def pairsD : List D → Option (List (Key × D))
  | [] => some []
  | x :: r => match pairD x, pairsD r with
    | some p, some q => some (p :: q)
    | _, _ => none
def mergeD (kvs more : List (Key × D)) : List (Key × D) := more.foldl (fun acc kv => putD acc kv.1 kv.2) kvs
theorem RepK.merge {K : PySem.W.Frag} {mg : Str → Option Value} {S : SA} {G : Hp} : ∀ (more : List (Key × V)) (moreD : List (Key × D)) (kvs : List (Key × V)) (ds : List (Key × D)), RepK K mg S G more moreD → RepK K mg S G kvs ds → RepK K mg S G (mergeK kvs more) (mergeD ds moreD) := by
  intro more
  induction more with
  | nil =>
    intro moreD kvs ds r b
    cases r
    exact b
  | cons p more ih =>
    intro moreD kvs ds r b
    cases r with
    | cons r t => exact ih _ (putK kvs _ _) (putD ds _ _) t (b.put _ r)
theorem pair_rep {K : PySem.W.Frag} {mg : Str → Option Value} {S : SA} {G H : Hp} (le : Le G H) {v : V} {x : D} {k : Key} {d : D} (r : Rep K mg S G v x) (e : pairD x = some (k, d)) : ∃ p vd, v = V.ref p ∧ SqT K H p [kV k, vd] ∧ Rep K mg S G vd d := by
  unfold pairD at e
  split at e
  · rename_i kx vx
    cases hk : keyD kx with
    | none => rw [hk] at e; cases e
    | some kk =>
      rw [hk] at e
      have e : some (kk, vx) = some (k, d) := e
      cases e
      cases r with
      | tup h rs =>
        cases rs with
        | cons r1 rs =>
          cases rs with
          | cons r2 rs =>
            cases rs
            have ek := key_rep (H := H) (.of r1) hk
            subst ek
            exact ⟨_, _, rfl, le.t h, r2⟩
  · cases e
theorem pairs_rep {K : PySem.W.Frag} {mg : Str → Option Value} {S : SA} {G H : Hp} (le : Le G H) : ∀ (ds : List D) (vs : List V) (kd : List (Key × D)), Reps K mg S G vs ds → pairsD ds = some kd → ∃ (ps : List Addr) (kvs : List (Key × V)), vs = ps.map V.ref ∧ Paired (fun p kv => SqT K H p [kV kv.1, kv.2]) ps kvs ∧ RepK K mg S G kvs kd := by
  intro ds
  induction ds with
  | nil =>
    intro vs kd r e
    cases r
    cases e
    exact ⟨[], [], rfl, .nil, .nil⟩
  | cons x ds ih =>
    intro vs kd r e
    cases r with
    | cons r t =>
      rw [pairsD] at e
      cases h1 : pairD x with
      | none => rw [h1] at e; cases e
      | some p =>
        cases h2 : pairsD ds with
        | none => rw [h1, h2] at e; cases e
        | some q =>
          rw [h1, h2] at e
          have e : some (p :: q) = some kd := e
          cases e
          obtain ⟨ps, kvs, e1, e2, e3⟩ := ih _ _ t h2
          obtain ⟨pk, pd⟩ := p
          obtain ⟨ad, vd, e4, e5, e6⟩ := pair_rep le r h1
          exact ⟨ad :: ps, (pk, vd) :: kvs, by rw [e1, e4]; rfl, .cons e5 e2, .cons e6 e3⟩
def dDictP : D → M D
  | .lst xs => match pairsD xs with
    | some kd => pure (.dic (mergeD [] kd))
    | none => bad
  | _ => bad
section
variable {X : Cx} {os : List Nat} {e : Expr} {te : TE} {m : Ev → M D} {pos p' : Pos}
theorem pmf_dictP (hc : X.calm = true) (hg : Gl X "dict") (hm : X.mg "dict" = none) (ha : PMB X os e te m) (he : starEach [e] X.env = (false, eval e X.env) :: starEach [] X.env := by rfl) (hpl : (backTo pos (starEach [] X.env)).any (·.1) = false := by rfl) :
    PMF X os (.Call (.Name "dict" p') [e] [] pos) (tCB (fun xs H Q => ∃ (a : Addr) (ps : List Addr) (kvs : List (Key × V)), xs = [.ref a] ∧ SqL X.K H a (ps.map V.ref) ∧ Paired (fun p kv => SqT X.K H p [kV kv.1, kv.2]) ps kvs ∧
    ∀ p, H p = none → Q (.ref p) (upd H p (.dK (mergeK [] kvs)))) (tCons te tNil)) (eUn dDictP m) :=
  pmf_callT1 (call_dictP hc) (fun S G H d x dx Q st sb rx w => by
    cases dx with
    | lst xs =>
      cases hz : pairsD xs with
      | none => simp only [dDictP, hz] at w; exact w.elim
      | some kd =>
        simp only [dDictP, hz] at w
        obtain ⟨a, vs, e1, h1, rr, n1⟩ := rx.lst' sb
        obtain ⟨ps, kvs, e2, e3, e4⟩ := pairs_rep sb.le _ _ _ rr hz
        exact ⟨a, ps, kvs, by rw [e1], .inl (.inl (by rw [h1, e2])), e3, fun p hp => w _ _ _ (Aft.newF st sb hp) (.dic hp (sb.free hp) upd_same (RepK.merge _ _ _ _ e4 .nil))⟩
    | _ => exact w.elim) hg hm (by decide +kernel) ha (by decide) (by decide) he hpl
end
end Mir
end
section
set_option Elab.async false
set_option linter.all false
set_option maxRecDepth 100000
set_option maxHeartbeats 1000000
/-! Mir, part Z: list(zip(xs, ys)). -/
namespace PySem.W
open PySem PySem.Calls PyProof.Rows PyProof.V PySem.Spec
theorem mz_nolen : typeLookup (.type "zip") "__len__" = pure none := am_miss_of_fast (by decide +kernel)
theorem mz_nohint : typeLookup (.type "zip") "__length_hint__" = pure none := am_miss_of_fast (by decide +kernel)
theorem mz_ne {a b c : Nat} (h : a ≤ b) (k : b < c) : c ≠ a := by omega
/-- behind i pairs; S: the list that is being filled -/
def MzSt (z TI TO i1 i2 l1 l2 : Addr) (xs ys : Array Value) (S : Addr) (i : Nat) (h : Heap) : Prop := IsPair h TI (.ref i1) (.ref i2) ∧ h.IsListIter i1 l1 i ∧ h.IsListIter i2 l2 i ∧ h.IsList l1 xs ∧ h.IsList l2 ys ∧
  ((IsZip h z TI TO .none ∧ ∃ a b, IsPair h TO a b) ∨ ∃ T f oT, IsZipHeld h z TI TO T f ∧ h.get? T = some oT ∧ T ≠ z ∧ T ≠ i1 ∧ T ≠ i2 ∧ T ≠ S)
theorem MzSt.stay {z TI TO i1 i2 l1 l2 : Addr} {xs ys : Array Value} {S : Addr} {i : Nat} {h h' : Heap} (x : MzSt z TI TO i1 i2 l1 l2 xs ys S i h) (hz : z ≠ S) (hTI : TI ≠ S) (hTO : TO ≠ S) (h1 : i1 ≠ S) (h2 : i2 ≠ S) (hl1 : l1 ≠ S) (hl2 : l2 ≠ S)
    (k : ∀ b o, b ≠ S → h.get? b = some o → h'.get? b = some o) : MzSt z TI TO i1 i2 l1 l2 xs ys S i h' := by
  obtain ⟨a1, a2, a3, a4, a5, a6⟩ := x
  refine ⟨k _ _ hTI a1, a2.at fun o e => k _ o h1 e, a3.at fun o e => k _ o h2 e, a4.at fun o e => k _ o hl1 e, a5.at fun o e => k _ o hl2 e, ?_⟩
  rcases a6 with ⟨q1, a, b, q2⟩ | ⟨T, f, oT, q1, q2, r1, r2, r3, r4⟩
  · exact .inl ⟨k _ _ hz q1, a, b, k _ _ hTO q2⟩
  · exact .inr ⟨T, f, oT, k _ _ hz q1, k _ _ r4 q2, r1, r2, r3, r4⟩
section
variable {prog : Program} {w : World} {A : Around} {E : Value → Shared → Prop} {s : Shared}
theorem mz_item {z TI TO i1 i2 l1 l2 : Addr} {xs ys : Array Value} {S : Addr} {i : Nat} {x y : Value} {Q : Option Value → Shared → Prop} (D : ZipApart z TI TO i1 i2 l1 l2) (st : MzSt z TI TO i1 i2 l1 l2 xs ys S i s.heap) (hS : S < s.heap.objs.size)
    (ex : xs[i]? = some x) (ey : ys[i]? = some y)
    (hQ : ∀ h', MzSt z TI TO i1 i2 l1 l2 xs ys S (i + 1) h' → IsPair h' s.heap.objs.size x y → h'.objs.size = s.heap.objs.size + 1 → (∀ b o, b ≠ z → b ≠ TO → b ≠ i1 → b ≠ i2 → s.heap.get? b = some o → h'.get? b = some o) → Q (some (.ref s.heap.objs.size)) { s with heap := h' }) :
    wpAny (model prog w) A (pyNext (.ref z)) Q E s := by
  obtain ⟨a1, a2, a3, a4, a5, a6⟩ := st
  have nw : ∀ {c : Addr} {o : Obj}, s.heap.get? c = some o → s.heap.objs.size ≠ c := fun e => Nat.ne_of_gt (Heap.lt_size e)
  have n1 : s.heap.objs.size ≠ i1 := by obtain ⟨_, e, _⟩ := a2; exact nw e
  have n2 : s.heap.objs.size ≠ i2 := by obtain ⟨_, e, _⟩ := a3; exact nw e
  rcases a6 with ⟨q1, a, b, q2⟩ | ⟨T, f, oT, q1, q2, r1, r2, r3, r4⟩
  · refine wpAny_pyNext_zip_item D q1 a1 q2 a2 a3 a4 a5 ex ey fun h' b1 b2 b3 b4 b5 b6 hk => ?_
    refine hQ h' ⟨hk _ _ D.TIz D.TITO D.TIi1 D.TIi2 a1, b3, b4, a4.at fun o e => hk _ o D.l1z D.l1TO D.l1i1 D.l1i2 e, a5.at fun o e => hk _ o D.l2z D.l2TO D.l2i1 D.l2i2 e, ?_⟩ b5 b6 hk
    exact .inr ⟨s.heap.objs.size, false, _, b1, b5, nw q1, n1, n2, Nat.ne_of_gt hS⟩
  · refine wpAny_pyNext_zip_item_held D q1 q2 a1 a2 a3 a4 a5 ex ey fun h' b1 b3 b4 b5 b6 hk => ?_
    refine hQ h' ⟨hk _ _ D.TIz D.TIi1 D.TIi2 a1, b3, b4, a4.at fun o e => hk _ o D.l1z D.l1i1 D.l1i2 e, a5.at fun o e => hk _ o D.l2z D.l2i1 D.l2i2 e, ?_⟩ b5 b6 fun b o c1 _ c3 c4 e => hk b o c1 c3 c4 e
    exact .inr ⟨T, true, oT, b1, hk _ _ r1 r2 r3 q2, r1, r2, r3, r4⟩
theorem mz_done {z TI TO i1 i2 l1 l2 : Addr} {xs ys : Array Value} {S : Addr} {i : Nat} {Q : Option Value → Shared → Prop} (hh : A.handled = none) (D : ZipApart z TI TO i1 i2 l1 l2) (st : MzSt z TI TO i1 i2 l1 l2 xs ys S i s.heap) (he : xs[i]? = none ∨ ys[i]? = none)
    (hQ : ∀ h', (∀ b o, b ≠ z → b ≠ TO → b ≠ i1 → b ≠ i2 → s.heap.get? b = some o → h'.get? b = some o) → Q none { s with heap := h' }) : wpAny (model prog w) A (pyNext (.ref z)) Q E s := by
  obtain ⟨a1, a2, a3, a4, a5, a6⟩ := st
  rcases a6 with ⟨q1, a, b, q2⟩ | ⟨T, f, oT, q1, q2, r1, r2, r3, r4⟩
  · exact wpAny_pyNext_zip_end hh D q1 a1 q2 a2 a3 a4 a5 he hQ
  · exact wpAny_pyNext_zip_end_held hh D q1 q2 a1 a2 a3 a4 a5 he fun h' hk => hQ h' fun b o c1 _ c3 c4 e => hk b o c1 c3 c4 e
/-- the pairs told at as: new objects, above lo, all unlike -/
structure MzG (xs ys : Array Value) (lo : Addr) (h : Heap) (as : List Addr) : Prop where
  nd : as.Nodup
  above : ∀ a ∈ as, lo < a
  pairs : ∀ (j : Nat) (a : Addr), as[j]? = some a → ∃ x y, xs[j]? = some x ∧ ys[j]? = some y ∧ IsPair h a x y
theorem MzG.there {xs ys : Array Value} {lo : Addr} {h : Heap} {as : List Addr} (g : MzG xs ys lo h as) {a : Addr} (ha : a ∈ as) : a < h.objs.size := by
  obtain ⟨j, hj⟩ := List.mem_iff_getElem?.mp ha
  obtain ⟨_, _, _, _, e⟩ := g.pairs j a hj
  exact Heap.lt_size e
end
section
variable {prog : Program} {w : World} {A : Around} {s : Shared} {R : Result → Shared → Prop}
theorem mz_loop {z TI TO i1 i2 l1 l2 S lo : Addr} {xs ys : Array Value} {n : Nat} (hh : A.handled = none) (D : ZipApart z TI TO i1 i2 l1 l2) (hS : S ≤ lo) (bz : z ≤ lo) (bTO : TO ≤ lo) (b1 : i1 ≤ lo) (b2 : i2 ≤ lo)
    (sz : z ≠ S) (sTI : TI ≠ S) (sTO : TO ≠ S) (s1 : i1 ≠ S) (s2 : i2 ≠ S) (sl1 : l1 ≠ S) (sl2 : l2 ≠ S) (hn : n ≤ sizeLine) (hx : xs.size = n) (hy : ys.size = n) (res : Value) {h0 : Heap}
    (hR : ∀ h' tk acc c as, (∀ b o, b ≠ S → b ≠ z → b ≠ TO → b ≠ i1 → b ≠ i2 → h0.get? b = some o → h'.get? b = some o) → h'.get? S = some { cls := .type "list", dict := none, data := .seq acc c, slots := #[] } → as.length = n → MzG xs ys lo h' as →
      acc.toList = as.map Value.ref → R (.ok (.ret res)) { s with heap := h', toks := tk }) :
    ∀ (k i : Nat) (h : Heap) (tk c : Nat) (acc : Array Value) (as : List Addr), n - i = k → i ≤ n → MzSt z TI TO i1 i2 l1 l2 xs ys S i h → (∀ b o, b ≠ S → b ≠ z → b ≠ TO → b ≠ i1 → b ≠ i2 → h0.get? b = some o → h.get? b = some o) →
      h.get? S = some { cls := .type "list", dict := none, data := .seq acc c, slots := #[] } → acc.toList = as.map Value.ref → as.length = i → MzG xs ys lo h as → lo < h.objs.size →
      codeAny (model prog w) A (.builtin "list.extend.loop" ⟨[.ref S, .ref z, res], []⟩) R { s with heap := h, toks := tk } := by
  intro k
  induction k with
  | zero =>
    intro i h tk c acc as hk hi st hkeep hSg hacc hal hG hlo
    have hin : i = n := by omega
    refine codeAny_builtin PySem.F.entry_extend_loop ?_
    rw [Around.under_plainId PySem.F.plain_extend_loop _]
    refine wpAny_bind (mz_done (s := { s with heap := h, toks := tk }) (A := A.in1) hh D st (.inl (Array.getElem?_eq_none (by omega))) fun h' he => wpAny_pure ?_)
    refine hR h' tk acc c as (fun b o c0 c1 c2 c3 c4 e => he b o c1 c2 c3 c4 (hkeep b o c0 c1 c2 c3 c4 e)) (he S _ (Ne.symm sz) (Ne.symm sTO) (Ne.symm s1) (Ne.symm s2) hSg) (by omega) ⟨hG.nd, hG.above, fun j a hj => ?_⟩ hacc
    obtain ⟨x, y, e1, e2, e3⟩ := hG.pairs j a hj
    have ha := hG.above a (List.mem_of_getElem? hj)
    exact ⟨x, y, e1, e2, he a _ (mz_ne bz ha) (mz_ne bTO ha) (mz_ne b1 ha) (mz_ne b2 ha) e3⟩
  | succ k ih =>
    intro i h tk c acc as hk hi st hkeep hSg hacc hal hG hlo
    have hlt : i < n := by omega
    have hsz : acc.size = i := by rw [← Array.length_toList, hacc, List.length_map, hal]
    have ex : xs[i]? = some xs[i] := Array.getElem?_eq_getElem (by omega)
    have ey : ys[i]? = some ys[i] := Array.getElem?_eq_getElem (by omega)
    refine codeAny_builtin PySem.F.entry_extend_loop ?_
    rw [Around.under_plainId PySem.F.plain_extend_loop _]
    refine wpAny_bind (mz_item (s := { s with heap := h, toks := tk }) (A := A.in1) D st (Heap.lt_size hSg) ex ey fun h' st' ht hz' hkp => ?_)
    dsimp only at ht hz' hkp ⊢
    have hS' := hkp S _ (Ne.symm sz) (Ne.symm sTO) (Ne.symm s1) (Ne.symm s2) hSg
    have hSl : S < h.objs.size := Heap.lt_size hSg
    have up : ∀ b o, b ≠ S → h'.get? b = some o → (h'.update S (Obj.mapSeq (·.push (Value.ref h.objs.size)))).get? b = some o := fun b o hb e => (Heap.get?_update_other _ _ (Ne.symm hb)).trans e
    show wpAny _ A.in1 (updateSeq S (·.push (Value.ref h.objs.size)) >>= _) _ _ _
    refine wpAny_bind (wpAny_updateSeq hS' rfl (wpAny_pure ⟨plainId_quiet PySem.F.plain_extend_loop _, ?_⟩) (by rw [hsz]; omega) (by show (acc.push (Value.ref h.objs.size)).size ≤ sizeLine + 1; rw [Array.size_push, hsz]; omega))
    refine ih (i + 1) _ tk _ (acc.push (Value.ref h.objs.size)) (as ++ [h.objs.size]) (by omega) hlt (st'.stay sz sTI sTO s1 s2 sl1 sl2 up) (fun b o c0 c1 c2 c3 c4 e => up b o c0 (hkp b o c1 c2 c3 c4 (hkeep b o c0 c1 c2 c3 c4 e)))
      (Heap.get?_update_self _ hS' rfl) (by rw [Array.toList_push, hacc, List.map_append]; rfl) (by rw [List.length_append, hal]; rfl) ⟨?_, ?_, ?_⟩ ?_
    · refine List.nodup_append.mpr ⟨hG.nd, by simp, fun a ha b hb => ?_⟩
      rw [List.mem_singleton.mp hb]
      exact Nat.ne_of_lt (hG.there ha)
    · intro a ha
      rcases List.mem_append.mp ha with ha | ha
      · exact hG.above a ha
      · rw [List.mem_singleton.mp ha]; exact hlo
    · intro j b hj
      rcases Nat.lt_trichotomy j as.length with q | q | q
      · rw [List.getElem?_append_left q] at hj
        obtain ⟨x, y, e1, e2, e3⟩ := hG.pairs j b hj
        have hb := hG.above b (List.mem_of_getElem? hj)
        exact ⟨x, y, e1, e2, up b _ (mz_ne hS hb) (hkp b _ (mz_ne bz hb) (mz_ne bTO hb) (mz_ne b1 hb) (mz_ne b2 hb) e3)⟩
      · subst q
        have hb : h.objs.size = b := by simpa using hj
        subst hb
        subst hal
        exact ⟨_, _, ex, ey, up _ _ (Nat.ne_of_gt hSl) ht⟩
      · rw [List.getElem?_eq_none (by rw [List.length_append, List.length_singleton]; omega)] at hj
        cases hj
    · have e : (h'.update S (Obj.mapSeq (·.push (Value.ref h.objs.size)))).get? h.objs.size = _ := up _ _ (Nat.ne_of_gt hSl) ht
      exact Nat.lt_trans hlo (Heap.lt_size e)
end
section
variable {prog : Program} {w : World} {A : Around} {E : Value → Shared → Prop} {s : Shared}
theorem mz_hint {r : Addr} {Q : Bool → Shared → Prop} (hT : s.TypeIs (.ref r) "zip") (h : Q true s) : wpAny (model prog w) A (Builtin.List.listLengthHint (.ref r)) Q E s := by
  unfold Builtin.List.listLengthHint
  refine wpAny_bind (wpAny_specialOf hT mz_nolen ?_)
  show wpAny _ _ (specialOf (.ref r) "__length_hint__" >>= _) _ _ _
  refine wpAny_bind (wpAny_specialOf hT mz_nohint ?_)
  exact wpAny_pure h
theorem mz_lt {a I b : Nat} (h : a < I) (e : b = I + 5) : a ≠ b := by omega
theorem mz_extend {I l1 l2 S : Nat} {xs ys : Array Value} {n : Nat} {R : Result → Shared → Prop} (hh : A.handled = none) (la : l1 < I) (lb : l2 < I) (hSe : S = I + 5) (hx : xs.size = n) (hy : ys.size = n) (hn : n ≤ sizeLine) (st : MzSt (I + 4) (I + 2) (I + 3) I (I + 1) l1 l2 xs ys S 0 s.heap)
    (hz : IsZip s.heap (I + 4) (I + 2) (I + 3) .none) (res : Value) (c₀ : Nat) (hS : s.heap.get? S = some { cls := .type "list", data := .seq #[] c₀ })
    (hR : ∀ h' tk acc c as, (∀ b o, b < I → s.heap.get? b = some o → h'.get? b = some o) → h'.get? S = some { cls := .type "list", dict := none, data := .seq acc c, slots := #[] } → as.length = n → MzG xs ys S h' as →
      acc.toList = as.map Value.ref → R (.ok (.ret res)) { s with heap := h', toks := tk }) :
    wpAny (model prog w) A.in1 (Builtin.List.listExtendWith (.ref S) (.ref (I + 4)) res)
      (fun fin s' => match fin with | .done f => R (.ok f) s' | .again c' => c'.quiet = true ∧ codeAny (model prog w) A c' R s') (fun e s' => R (.error e) s') s := by
  have D := ktu_apart I l1 l2 la lb
  have sz : I + 4 ≠ S := by omega
  have sTI : I + 2 ≠ S := by omega
  have sTO : I + 3 ≠ S := by omega
  have s1 : I ≠ S := by omega
  have s2 : I + 1 ≠ S := by omega
  have sl1 : l1 ≠ S := by omega
  have sl2 : l2 ≠ S := by omega
  have oth : ∀ (f : Obj → Obj) (h : Heap) (b : Addr) (o : Obj), b ≠ S → h.get? b = some o → (h.update S f).get? b = some o := fun f h b o hb e => (Heap.get?_update_other _ _ (Ne.symm hb)).trans e
  have key : ∀ (h : Heap) (c tk : Nat), MzSt (I + 4) (I + 2) (I + 3) I (I + 1) l1 l2 xs ys S 0 h → (∀ b o, b ≠ S → s.heap.get? b = some o → h.get? b = some o) → h.get? S = some { cls := .type "list", data := .seq #[] c } →
      codeAny (model prog w) A (.builtin "list.extend.loop" ⟨[.ref S, .ref (I + 4), res], []⟩) R { s with heap := h, toks := tk } := fun h c tk st hk1 hSh => by
    refine mz_loop (n := n) (lo := S) (s := s) (h0 := s.heap) hh D (Nat.le_refl S) (show I + 4 ≤ S by omega) (show I + 3 ≤ S by omega) (show I ≤ S by omega) (show I + 1 ≤ S by omega) sz sTI sTO s1 s2 sl1 sl2 hn hx hy res (fun h' tk' acc c' as hk' hS' hl hG hacc => ?_) n 0 h tk c #[] [] (Nat.sub_zero _) (Nat.zero_le _) st
      (fun b o c0 _ _ _ _ e => hk1 b o c0 e) hSh rfl rfl ⟨List.nodup_nil, (fun _ ha => nomatch ha), (fun j a hj => by simp at hj)⟩ (Heap.lt_size hSh)
    refine hR h' tk' acc c' as (fun b o hb e => ?_) hS' hl hG hacc
    have nb : ∀ m : Nat, b ≠ I + m := fun m => Nat.ne_of_lt (Nat.lt_of_lt_of_le hb (Nat.le_add_right I m))
    exact hk' b o (by rw [hSe]; exact nb 5) (nb 4) (nb 3) (nb 0) (nb 1) e
  unfold Builtin.List.listExtendWith
  refine wpAny_bind (wpAny_typeOf (T := "zip") ⟨_, hz, rfl⟩ ?_)
  have q1 : Builtin.List.listSameRef (.ref S) (.ref (I + 4)) = false := by simp [Builtin.List.listSameRef, Ne.symm sz]
  have q2 : (Value.type "zip" == Value.type "list") = false := by decide
  have q3 : (Value.type "zip" == Value.type "tuple") = false := by decide
  simp only [q1, q2, q3, Bool.or_false, Bool.false_eq_true, if_false]
  refine wpAny_bind (wpAny_pyIter_zip hz ?_)
  refine wpAny_bind (wpAny_holding (mz_hint ⟨_, hz, rfl⟩ ?_))
  refine wpAny_ite_split (fun _ => ?_) (fun hab => absurd (by decide +kernel) hab)
  refine wpAny_bind (wpAny_rule ?_)
  refine wpAny_bind ?_
  show wpAny _ _ (updateSeq S (·.push .none) >>= fun _ => updateSeq S (·.pop)) _ _ _
  refine wpAny_bind (wpAny_updateSeq hS rfl ?_)
  have hS3 := Heap.get?_update_self (Obj.mapSeq (·.push Value.none)) hS rfl
  refine wpAny_updateSeq (hz := by seq_fits) hS3 rfl ?_
  have hS4 := Heap.get?_update_self (Obj.mapSeq (·.pop)) hS3 rfl
  refine wpAny_pure ⟨plainId_quiet PySem.F.plain_extend_loop _, key _ _ _ ?_ (fun b o hb e => ?_) hS4⟩
  · exact (st.stay sz sTI sTO s1 s2 sl1 sl2 (fun b o hb e => oth _ _ b o hb e)).stay sz sTI sTO s1 s2 sl1 sl2 (fun b o hb e => oth _ _ b o hb e)
  · exact oth _ _ b o hb (oth _ _ b o hb e)
theorem mz_call {l1 l2 : Addr} {xs ys : Array Value} {n : Nat} {Q : Value → Shared → Prop} (hh : A.handled = none) (p1 : s.heap.IsList l1 xs) (p2 : s.heap.IsList l2 ys) (hx : xs.size = n) (hy : ys.size = n) (hn : n ≤ sizeLine)
    (hQ : ∀ h' tk acc c as (S : Addr), s.heap.objs.size ≤ S → (∀ b o, s.heap.get? b = some o → h'.get? b = some o) → h'.get? S = some { cls := .type "list", dict := none, data := .seq acc c, slots := #[] } → as.length = n → MzG xs ys S h' as →
      acc.toList = as.map Value.ref → Q (.ref S) { s with heap := h', toks := tk }) :
    wpAny (model prog w) A (call (.type "zip") [.ref l1, .ref l2]) (fun v s1 => wpAny (model prog w) A (call (.type "list") [v]) Q E s1) E s := by
  have la : l1 < s.heap.objs.size := by obtain ⟨_, e, _⟩ := p1; exact Heap.lt_size e
  have lb : l2 < s.heap.objs.size := by obtain ⟨_, e, _⟩ := p2; exact Heap.lt_size e
  refine call_zip_2 p1 p2 fun h1 hz hTI hTO hi1 hi2 hsz hk => ?_
  refine callType_codes (Q₁ := fun obj s₁ => obj = .ref h1.objs.size ∧ s₁ = { s with heap := h1.push { cls := .type "list", data := .seq #[] } }) PySem.F.called_list (PySem.F.typeCall_list_1 _) PySem.F.entry_list_init (code_list_new _ ⟨rfl, rfl⟩) fun obj s₁ hobj => ?_
  obtain ⟨rfl, rfl⟩ := hobj
  have hS : (h1.push { cls := .type "list", data := .seq #[] }).get? h1.objs.size = some { cls := .type "list", data := .seq #[] } := Heap.get?_push_size _ rfl
  have kp : ∀ b o, h1.get? b = some o → (h1.push { cls := .type "list", data := .seq #[] }).get? b = some o := fun b o e => Heap.get?_push_of_some _ e
  have lz : ∀ {b : Addr} {o : Obj}, h1.get? b = some o → b ≠ h1.objs.size := fun e => Nat.ne_of_lt (Heap.lt_size e)
  have st0 : MzSt (s.heap.objs.size + 4) (s.heap.objs.size + 2) (s.heap.objs.size + 3) s.heap.objs.size (s.heap.objs.size + 1) l1 l2 xs ys h1.objs.size 0 (h1.push { cls := .type "list", data := .seq #[] }) := ⟨kp _ _ hTI, hi1.at fun o e => kp _ o e, hi2.at fun o e => kp _ o e, p1.at fun o e => kp _ o (hk _ o e), p2.at fun o e => kp _ o (hk _ o e), .inl ⟨kp _ _ hz, _, _, kp _ _ hTO⟩⟩
  refine ⟨⟨_, hS, rfl⟩, PySem.F.args_list_init_2 _ _, ?_⟩
  show wpAny _ _ (do let old ← Builtin.List.listItems (.ref h1.objs.size); Builtin.List.listUpdate (.ref h1.objs.size) (fun _ => #[]); letGo old.toList.reverse; Builtin.List.listExtendWith (.ref h1.objs.size) (.ref (s.heap.objs.size + 4)) .none) _ _ _
  refine wpAny_bind ?_
  unfold Builtin.List.listItems
  refine wpAny_bind (wpAny_seqItems hS rfl (wpAny_pure ?_))
  show wpAny _ _ (updateSeq h1.objs.size (fun _ => #[]) >>= fun _ => letGo (#[] : Array Value).toList.reverse >>= fun _ => Builtin.List.listExtendWith (.ref h1.objs.size) (.ref (s.heap.objs.size + 4)) .none) _ _ _
  refine wpAny_bind (wpAny_updateSeq hS rfl ?_)
  have hS2 := Heap.get?_update_self (Obj.mapSeq (fun _ => (#[] : Array Value))) hS rfl
  refine wpAny_bind (wpAny_letGo ?_)
  have oth : ∀ (f : Obj → Obj) (h : Heap) (b : Addr) (o : Obj), b ≠ h1.objs.size → h.get? b = some o → (h.update h1.objs.size f).get? b = some o := fun f h b o hb e => (Heap.get?_update_other _ _ (Ne.symm hb)).trans e
  have e5 : h1.objs.size = s.heap.objs.size + 5 := hsz
  refine mz_extend (A := A.in1) (n := n) (s := { s with heap := (h1.push { cls := .type "list", data := .seq #[] }).update h1.objs.size (Obj.mapSeq (fun _ => (#[] : Array Value))) }) hh la lb e5 hx hy hn (st0.stay (lz hz) (lz hTI) (lz hTO) (by obtain ⟨_, e, _⟩ := hi1; exact lz e) (by obtain ⟨_, e, _⟩ := hi2; exact lz e) (mz_lt la e5) (mz_lt lb e5) (fun b o hb e => oth (Obj.mapSeq (fun _ => (#[] : Array Value))) _ b o hb e))
    (oth _ _ _ _ (lz hz) (kp _ _ hz)) .none _ hS2 (fun h' tk acc c as hk' hS' hl hG hacc => ?_)
  refine ⟨rfl, hQ h' tk acc c as h1.objs.size (by rw [e5]; exact Nat.le_add_right _ _) (fun b o e => ?_) hS' hl hG hacc⟩
  have hb := Heap.lt_size e
  exact hk' b o hb (oth _ _ b o (mz_lt hb e5) (kp b o (hk b o e)))
end
end PySem.W
end
section
set_option Elab.async false
set_option linter.all false
set_option maxRecDepth 100000
set_option maxHeartbeats 1000000
/-! Mir, part Y: many new objects at once; list(zip(xs, ys)) mirrored. -/
namespace Mir
open PySem PySem.Spec PyProof.Rows L2
theorem laidMany {X : Cx} {pins : List (Addr × Obj)} {σ : St} {H H' : Hp} {s : Shared} {h' : Heap} {tk : Nat} (I : Inv X pins σ H s) (hk : ∀ b o, s.heap.get? b = some o → h'.get? b = some o) (hold : ∀ b, b < s.heap.objs.size → H' b = H b)
    (hnew : ∀ b o, s.heap.objs.size ≤ b → H' b = some o → ObjOk X.prog X.w H' h' b o) : Inv X pins σ H' { s with heap := h', toks := tk } := by
  have same : ∀ {b : Addr} {o : HO}, H b = some o → H' b = some o := fun {b o} e => (hold b (I.hok.lt e)).trans e
  refine I.un (u := ?_) (fun b o e => ?_)
  · exact {
      keep := fun b o q _ _ _ => hk b o q
      slot := fun b o q _ _ _ => ⟨o.slots, hk b o q⟩
      free := fun b o q n _ => (hold b (Heap.lt_size q)).trans n
      there := fun b o q _ => ⟨o, hk b o q⟩
      tups := fun b xs q => same q
      frzs := fun b o u q => same q
      tbls := fun b ps q => ⟨#[], by rw [same q]; simp⟩ }
  · by_cases hb : b < s.heap.objs.size
    · rw [hold b hb] at e
      exact (I.hok b o e).stay (fun c v _ z => hk c v z) (fun _ z => same z) fun _ _ z => same z
    · exact hnew b o (Nat.le_of_not_lt hb) e
/-- the list of pairs laid at S, the pairs at as -/
structure ZipLaid (H H' : Hp) (S : Addr) (as : List Addr) (xs ys : List V) : Prop where
  old : ∀ b o, H b = some o → H' b = some o
  fS : H S = none
  fas : ∀ a ∈ as, H a = none
  nS : S ∉ as
  len : as.length = xs.length
  atS : H' S = some (.lst (as.map V.ref))
  pairs : ∀ (i : Nat) (a : Addr), as[i]? = some a → ∃ x y, xs[i]? = some x ∧ ys[i]? = some y ∧ H' a = some (.tup [x, y])
def tZipL (K : PySem.W.Frag) (ta : TA) : TE := fun σ H Q => ta σ H fun vs H1 => ∃ a b xs ys, vs = [.ref a, .ref b] ∧ SqL K H1 a xs ∧ SqL K H1 b ys ∧ xs.length = ys.length ∧ ∀ S as H', ZipLaid H1 H' S as xs ys → Q (.ref S) H'
section
variable {X : Cx} {a b : Expr} {ta : TA} {p p2 pos pos2 : Pos}
theorem pe_zipL (hc : X.calm = true) (hg : Gl X "list") (hm : X.mg "list" = none) (hg2 : Gl X "zip") (hm2 : X.mg "zip" = none) (ha : PA X [a, b] ta)
    (hs : starEach [.Call (.Name "zip" p2) [a, b] [] pos2] X.env = (false, eval (.Call (.Name "zip" p2) [a, b] [] pos2) X.env) :: starEach [] X.env := by rfl)
    (hs2 : starEach [a, b] X.env = (false, eval a X.env) :: starEach [b] X.env := by rfl) (hpl : (backTo pos2 (starEach [b] X.env)).any (·.1) = false := by rfl) :
    PE X (.Call (.Name "list" p) [.Call (.Name "zip" p2) [a, b] [] pos2] [] pos) (tZipL X.K ta) := by
  refine ⟨fun pins s σ H Q I hq => ?_⟩
  have hv : bootBuiltins "list" = some (.type "list") := by decide +kernel
  refine wpAny_Call_Name_kw (ld_blt I hg hm hv ?_)
  refine PyProof.Rows.callWith_type1 ?_ hs rfl
  rw [hs]
  show wpAny _ _ (spliced ((false, eval (.Call (.Name "zip" p2) [a, b] [] pos2) X.env) :: backTo pos (starEach [] X.env))) _ _ s
  refine Calls.spliced_cons ?_
  refine Call_ (ld_blt I hg2 hm2 PyProof.Rows.boot_zip (PyProof.Rows.callWith_type1 (thn (ha.run pos2 pins s σ H _ I hq) fun us s1 ⟨vs, H1, I1, r1, q1⟩ => ?_) hs2 hpl))
  obtain ⟨l1, l2, xs, ys, ev, hx, hy, hl, q⟩ := q1
  subst ev
  obtain ⟨u1, u2, rfl, ru1, ru2⟩ := vals2 r1
  cases ru1
  cases ru2
  obtain ⟨its, rv, pl, hz⟩ := I1.list hx
  obtain ⟨its2, rv2, pl2, hz2⟩ := I1.list hy
  have e1 := rv.length
  have e2 := rv2.length
  refine wpAny_mono (PySem.W.mz_call (n := xs.length) (Q := EP X pins σ Q) (I1.ok.hd hc) pl.isList pl2.isList (by rw [List.size_toArray]; exact e1.symm) (by rw [List.size_toArray, ← e2]; exact hl.symm) hz fun h' tk acc c as S hS hk hSg hal hG hacc => ?_) (fun v s2 h => Calls.spliced_nil h) fun _ _ z => z
  have nS : S ∉ as := fun z => absurd (hG.above S z) (Nat.lt_irrefl S)
  have hnew : ∀ a ∈ as, s1.heap.objs.size ≤ a := fun a ha => Nat.le_trans hS (Nat.le_of_lt (hG.above a ha))
  have pr : ∀ a ∈ as, ∃ x y u v, RelV x u ∧ RelV y v ∧ PySem.IsPair h' a u v ∧ ∀ i, as[i]? = some a → xs[i]? = some x ∧ ys[i]? = some y := fun a ha => by
    obtain ⟨i, hi⟩ := List.mem_iff_getElem?.mp ha
    obtain ⟨u, v, g1, g2, g3⟩ := hG.pairs i a hi
    have il : i < xs.length := by rw [← hal]; exact (List.getElem?_eq_some_iff.mp hi).1
    have g1' : its[i]? = some u := by simpa using g1
    have g2' : its2[i]? = some v := by simpa using g2
    obtain ⟨u', w1, w2⟩ := rv.get (List.getElem?_eq_getElem il)
    obtain ⟨v', w3, w4⟩ := rv2.get (List.getElem?_eq_getElem (by rw [← hl]; exact il))
    rw [g1'] at w1; cases w1
    rw [g2'] at w3; cases w3
    refine ⟨_, _, u, v, w2, w4, g3, fun j hj => ?_⟩
    have ij : i = j := (List.getElem_inj hG.nd).mp (by
      have h1 := (List.getElem?_eq_some_iff.mp hi).2
      have h2 := (List.getElem?_eq_some_iff.mp hj).2
      exact h1.trans h2.symm)
    subst ij
    exact ⟨List.getElem?_eq_getElem il, List.getElem?_eq_getElem (by rw [← hl]; exact il)⟩
  classical
  let H2 : Hp := fun b => if b = S then some (.lst (as.map V.ref)) else if hb : b ∈ as then some (.tup [(pr b hb).choose, (pr b hb).choose_spec.choose]) else H1 b
  have hH2S : H2 S = some (.lst (as.map V.ref)) := by show (if S = S then _ else _) = _; rw [if_pos rfl]
  have hH2a : ∀ b (hb : b ∈ as), H2 b = some (.tup [(pr b hb).choose, (pr b hb).choose_spec.choose]) := fun b hb => by
    show (if b = S then _ else _) = _
    rw [if_neg (fun z : b = S => nS (z ▸ hb)), dif_pos hb]
  have hH2o : ∀ b, b ≠ S → b ∉ as → H2 b = H1 b := fun b h1 h2 => by
    show (if b = S then _ else _) = _
    rw [if_neg h1, dif_neg h2]
  have J : Inv X pins σ H2 { s1 with heap := h', toks := tk } := by
    refine laidMany I1 hk (fun b hb => hH2o b (fun z => ?_) fun z => ?_) fun b o hb e => ?_
    · rw [z] at hb; exact absurd hb (Nat.not_lt.mpr hS)
    · exact absurd hb (Nat.not_lt.mpr (hnew b z))
    · by_cases h1 : b = S
      · subst h1
        rw [hH2S] at e
        cases e
        refine ⟨by rw [List.length_map, hal]; exact hz, acc.toList, c, ?_, by rw [Array.toArray_toList]; exact hSg⟩
        rw [hacc]
        clear hacc hSg pr H2 hH2S hH2a hH2o hG nS hnew hal
        induction as with
        | nil => exact .nil
        | cons q r ih => exact .cons rfl ih
      · by_cases h2 : b ∈ as
        · rw [hH2a b h2] at e
          cases e
          obtain ⟨u, v, w1, w2, w3, _⟩ := (pr b h2).choose_spec.choose_spec
          exact ⟨by show 2 ≤ sizeLine; decide, [u, v], .cons w1 (.cons w2 .nil), _, w3, rfl, 0, rfl⟩
        · rw [hH2o b h1 h2, I1.hok.fresh hb] at e
          cases e
  refine ⟨.ref S, H2, J, rfl, q S as H2 {
    old := fun b o e => (hH2o b (fun z => by rw [z, I1.hok.fresh hS] at e; cases e) fun z => by rw [I1.hok.fresh (hnew b z)] at e; cases e).trans e
    fS := I1.hok.fresh hS
    fas := fun a ha => I1.hok.fresh (hnew a ha)
    nS := nS
    len := hal
    atS := hH2S
    pairs := fun i a hi => by
      have ha := List.mem_of_getElem? hi
      obtain ⟨u, v, _, _, _, w⟩ := (pr a ha).choose_spec.choose_spec
      exact ⟨_, _, (w i hi).1, (w i hi).2, hH2a a ha⟩ }⟩
end
/-! ### mirrored -/
def tups2 : List D → List D → List D
  | x :: xs, y :: ys => .tup [x, y] :: tups2 xs ys
  | _, _ => []
def dZipL (x y : D) : M D := match x, y with
  | .lst xs, .lst ys => guardB (decide (xs.length = ys.length)) (pure (.lst (tups2 xs ys)))
  | _, _ => bad
def aZip (ms : Ev → M (List D)) : Ev → M D := fun env => ms env >>= fun zs => match zs with
  | [x, y] => dZipL x y
  | _ => bad
theorem tups2_rep {K : PySem.W.Frag} {mg : Str → Option Value} {S : SA} {G : Hp} : ∀ (as : List Addr) (xs ys : List D) (vs ws : List V), Reps K mg S G vs xs → Reps K mg S G ws ys → xs.length = ys.length → as.length = vs.length →
    (∀ (i : Nat) (a : Addr), as[i]? = some a → ∃ x y, vs[i]? = some x ∧ ws[i]? = some y ∧ G a = some (.tup [x, y])) → Reps K mg S G (as.map V.ref) (tups2 xs ys) := by
  intro as
  induction as with
  | nil =>
    intro xs ys vs ws r1 r2 hl hn h
    cases r1 with
    | nil => exact .nil
    | cons => cases hn
  | cons a as ih =>
    intro xs ys vs ws r1 r2 hl hn h
    cases r1 with
    | nil => cases hn
    | cons p1 q1 =>
      cases r2 with
      | nil => cases hl
      | cons p2 q2 =>
        obtain ⟨x, y, e1, e2, e3⟩ := h 0 a rfl
        cases e1
        cases e2
        exact .cons (.tup (.inl (.inl e3)) (.cons p1 (.cons p2 .nil))) (ih _ _ _ _ q1 q2 (Nat.succ.inj hl) (Nat.succ.inj hn) fun i a hi => h (i + 1) a hi)
section
variable {X : Cx} {os : List Nat} {a b : Expr} {ta : TA} {ms : Ev → M (List D)} {p p2 pos pos2 : Pos}
theorem pmf_zipL (hc : X.calm = true) (hg : Gl X "list") (hm : X.mg "list" = none) (hg2 : Gl X "zip") (hm2 : X.mg "zip" = none) (ha : PMA X os [a, b] ta ms)
    (hs : starEach [.Call (.Name "zip" p2) [a, b] [] pos2] X.env = (false, eval (.Call (.Name "zip" p2) [a, b] [] pos2) X.env) :: starEach [] X.env := by rfl)
    (hs2 : starEach [a, b] X.env = (false, eval a X.env) :: starEach [b] X.env := by rfl) (hpl : (backTo pos2 (starEach [b] X.env)).any (·.1) = false := by rfl) :
    PMF X os (.Call (.Name "list" p) [.Call (.Name "zip" p2) [a, b] [] pos2] [] pos) (tZipL X.K ta) (aZip ms) := by
  refine ⟨pe_zipL hc hg hm hg2 hm2 ha.p hs hs2 hpl, fun C G σ H env d Q I w => ?_⟩
  unfold aZip at w
  rw [Wp_bind] at w
  refine ha.s C G σ H env d _ I (w.imp fun zs d1 w1 vs H1 G1 A r => ?_)
  split at w1
  · rename_i x y
    cases r with
    | cons r1 r =>
      cases r with
      | cons r2 r =>
        cases r
        cases x with
        | lst xs =>
          cases y with
          | lst ys =>
            have w1 : Wp (guardB (decide (xs.length = ys.length)) (pure (D.lst (tups2 xs ys)) : M D) d1) _ := w1
            rw [Wp_guard] at w1
            have hl : xs.length = ys.length := of_decide_eq_true w1.1
            cases r1 with
            | lst g1 p1 =>
              cases r2 with
              | lst g2 p2 =>
                refine ⟨_, _, _, _, rfl, .inl (.inl (A.sub.le _ _ g1)), .inl (.inl (A.sub.le _ _ g2)), by rw [p1.length, p2.length]; exact hl, fun Sz as H' L => ?_⟩
                classical
                let G2 : Hp := fun b => if b ∈ as then H' b else G1 b
                have gin : ∀ b, b ∈ as → G2 b = H' b := fun b hb => if_pos hb
                have gout : ∀ b, b ∉ as → G2 b = G1 b := fun b hb => if_neg hb
                have le : Le G1 G2 := fun b o e => by
                  rw [gout b fun z => ?_]
                  · exact e
                  · rw [A.sub.free (L.fas b z)] at e; cases e
                have A2 : Aft C.S G1 H1 G2 H' d1 := {
                  hp := fun b o e _ => L.old b o e
                  gm := le
                  gn := fun b hb gb => by
                    rw [gout b fun z => hb (L.fas b z)]; exact gb
                  st := ⟨L.old _ _ A.st.s, L.old _ _ A.st.g, L.old _ _ A.st.c, A.st.gc, fun b vs e => ⟨L.old _ _ (A.st.l b vs e).1, (A.st.l b vs e).2⟩⟩
                  sub := fun b o e => by
                    by_cases hb : b ∈ as
                    · rw [gin b hb] at e
                      exact ⟨e, A.st.off (L.fas b hb)⟩
                    · rw [gout b hb] at e
                      exact ⟨L.old b o (A.sub b o e).1, (A.sub b o e).2⟩ }
                refine w1.2 _ H' G2 (A.trans A2) (.lst (A.free L.fS) (by rw [gout Sz L.nS]; exact A.sub.free L.fS) L.atS (tups2_rep as xs ys _ _ (p1.mono le) (p2.mono le) hl L.len fun i a hi => ?_))
                obtain ⟨x, y, e1, e2, e3⟩ := L.pairs i a hi
                exact ⟨x, y, e1, e2, (gin a (List.mem_of_getElem? hi)).trans e3⟩
          | _ => exact w1.elim
        | _ => exact w1.elim
  · exact w1.elim
end
end Mir
end
section
set_option Elab.async false
set_option linter.all false
set_option maxRecDepth 100000
set_option maxHeartbeats 1000000
/-! Mir, part I: what is walked: anything plain, values, pairs, enumerate. -/
namespace PySem.W
open PySem
/-- enumerate of what begins so, from 0 -/
theorem mi_newB {v : Value} {o : Obj} {H : Heap → Prop} (B : Begins v o H) :
    Meets (Builtin.«enumerate.__new__» ⟨[.type "enumerate", v], []⟩) (fun _ R s => H s.heap ∧
      R (.ok (.ret (.ref (s.heap.push o).objs.size))) { s with heap := (s.heap.push o).push { cls := .type "enumerate", data := .fields #[.none, .bool false, .ref s.heap.objs.size, rawInt 0, .none, .none] } }) :=
  .of_wp fun prog w A R s h => by
    obtain ⟨hp, g, d, tk, os⟩ := s
    obtain ⟨h1, h⟩ := h
    have hsub := sub_enumerate
    have first : ∀ {A' : Around} {E : Value → Shared → Prop} {Q : Value → Shared → Prop}, Q (.ref hp.objs.size) ⟨hp.push o, g, d, tk, os⟩ → wpAny (model prog w) A' (pyIter v) Q E ⟨hp, g, d, tk, os⟩ :=
      fun q => B.iter prog w _ _ ⟨hp, g, d, tk, os⟩ _ h1 q
    wp_walk using first
    refine wpAny_stack_any fun st => wpAny_pure ?_
    split
    · rename_i c _ _ _ _ _
      cases (c == Value.type "enumerate")
      · wp_walk using first
        exact ⟨_, rfl, h⟩
      · wp_walk using first
        exact ⟨_, rfl, h⟩
    · wp_walk using first
      exact ⟨_, rfl, h⟩
section
variable {prog : Program} {w : World} {A : Around} {E : Value → Shared → Prop} {s : Shared}
theorem mi_enum {v : Value} {o : Obj} {H : Heap → Prop} {Q : Value → Shared → Prop} (B : Begins v o H) (h1 : H s.heap)
    (h : ∀ h', IsEnum h' (s.heap.objs.size + 1) s.heap.objs.size 0 .none → h'.get? s.heap.objs.size = some o → h'.objs.size = s.heap.objs.size + 2 →
      (∀ b o, s.heap.get? b = some o → h'.get? b = some o) → Q (.ref (s.heap.objs.size + 1)) { s with heap := h' }) :
    wpAny (model prog w) A (call (.type "enumerate") [v]) Q E s := by
  refine callType_new F.called_enumerate (by decide) (F.typeCall_enumerate_1 _) (F.newCall_enumerate_1 _) (fun obj => F.args_object_init_2 obj _) F.entry_enumerate_new
    (mi_newB B) ⟨h1, ?_⟩
  have hz : (s.heap.push o).objs.size = s.heap.objs.size + 1 := Heap.size_push ..
  show _ ∧ _
  rw [hz]
  have laid : IsEnum ((s.heap.push o).push { cls := .type "enumerate", data := .fields #[.none, .bool false, .ref s.heap.objs.size, rawInt 0, .none, .none] }) (s.heap.objs.size + 1) s.heap.objs.size 0 .none := by
    have := Heap.get?_push_size (s.heap.push o) (o := { cls := .type "enumerate", data := .fields #[.none, .bool false, .ref s.heap.objs.size, rawInt 0, .none, .none] }) rfl
    rw [hz] at this; exact this
  exact ⟨⟨_, laid, rfl⟩, h _ laid (Heap.get?_push_of_some _ (Heap.get?_push_size _ B.free)) (by rw [Heap.size_push, hz]) fun b o x => Heap.get?_push_of_some _ (Heap.get?_push_of_some _ x)⟩
end
end PySem.W
namespace Mir
open PySem PySem.Spec PyProof.Rows L2
/-! ### enumerate of a tuple -/
def IteT (K : PySem.W.Frag) (a : Addr) : It :=
  ⟨fun i H => ∃ (xs : List V) (x : V), SqT K H a xs ∧ xs[i]? = some x, fun i H v H' => ∃ T x, v = .ref T ∧ H T = none ∧ H' = upd H T (.tup [.int (i : Nat), x]) ∧ ∀ xs, SqT K H a xs → xs[i]? = some x, fun i H => ∃ xs : List V, SqT K H a xs ∧ xs.length = i⟩
theorem turn_enumT {P : Program} {w : World} {K : PySem.W.Frag} {elts : List Expr} {kk : Nat} {tpos : Pos} (a e it : Addr) :
    Turn P w K (.Tuple elts kk tpos) (IteT K a) [e, it] e (fun i h => (∃ old, IsEnum h e it ((i : Nat) : Int) old) ∧ h.IsTupleIter it a i ∧ e ≠ it ∧ a ≠ it ∧ e ≠ a) where
  mem := by simp
  obj := fun i h st b hb => by
    obtain ⟨⟨old, he⟩, ⟨o, ho, hc, hd⟩, _⟩ := st
    have e' : b = e ∨ b = it := by simpa using hb
    rcases e' with z | z
    · rw [z]; exact ⟨_, he, fun v q => nomatch q⟩
    · rw [z]; exact ⟨o, ho, fun v q => by rw [hd] at q; cases q⟩
  keep := fun i h h' st k => let ⟨⟨old, he⟩, hi, hne⟩ := st; ⟨⟨old, k e (by simp) _ he⟩, hi.at fun o q => k it (by simp) o q, hne⟩
  item := by
    intro X hP hw hK hc i pins s σ H E I hf st hg
    subst hP hw hK
    obtain ⟨⟨old, he⟩, hit, hne, hai, hea⟩ := st
    obtain ⟨xs, x, hq, hx⟩ := hg
    obtain ⟨its, rv, p, hz⟩ := I.tuple hq
    obtain ⟨u, hu, ru⟩ := rv.get hx
    have il : i < its.length := (List.getElem?_eq_some_iff.mp hu).1
    have hel : e < s.heap.objs.size := Heap.lt_size he
    have hil : it < s.heap.objs.size := by obtain ⟨_, q, _⟩ := hit; exact Heap.lt_size q
    have pt : s.heap.IsTuple a its.toArray := p
    refine wpAny_pyNext_enum_itemD (Draws.tuple (A := X.A.in1) (I.ok.hd hc) it a hai its.toArray) he ⟨hit, pt⟩ (by simpa using il) hne (by simp [hne, hea]) fun u' h' tk hP' ho hs' hT hsz hk => ?_
    have eu : u' = u := by
      have q : its[i]? = some u' := by simpa using hP'
      rw [hu] at q; cases q; rfl
    subst eu
    refine ⟨_, rfl, wpAny_letOwnedTupleGo_enum (s := { s with heap := h', toks := tk + 1 }) ho fun h'' he' sb => ?_⟩
    have hT2 : h''.get? s.heap.objs.size = some { cls := .type "tuple", data := .seq #[.int i tk, u'] } := (sb.2 _ (Nat.ne_of_gt hel)).trans hT
    have new : ObjOk X.prog X.w (upd H s.heap.objs.size (.tup [.int (i : Nat), x])) h'' s.heap.objs.size (.tup [.int (i : Nat), x]) :=
      ⟨by show 2 ≤ sizeLine; decide, [.int i tk, u'], .cons ⟨_, rfl⟩ (.cons ru .nil), ⟨_, hT2, rfl, _, rfl⟩⟩
    have I1 : Inv X pins σ (upd H s.heap.objs.size (.tup [.int (i : Nat), x])) { s with heap := h'', toks := tk + 1 } :=
      I.turnedNew (ch := [e, it]) (fun b ob hb q => (sb.2 b (fun z => hb (by simp [z]))).trans (hk b ob (fun z => hb (by simp [z])) (fun z => hb (by simp [z])) q)) hf (Nat.le_refl _) new
    refine ⟨.ref s.heap.objs.size, _, I1, rfl, ⟨_, x, rfl, I.hok.fresh (Nat.le_refl _), rfl, fun ys hy => by rw [I.tuple_inj hy hq]; exact hx⟩, ⟨⟨u', ?_⟩, hs'.1.at fun o q => (sb.2 it (Ne.symm hne)).trans q, hne, hai, hea⟩, fun b hb => ?_⟩
    · have e1 : ((i + 1 : Nat) : Int) = (i : Int) + 1 := by omega
      rw [e1]; exact he'
    · have hb' : b < s.heap.objs.size := by
        have e' : b = e ∨ b = it := by simpa using hb
        rcases e' with z | z
        · rw [z]; exact hel
        · rw [z]; exact hil
      rw [upd_ne (Nat.ne_of_lt hb')]
      exact (hf b hb).1
  done := by
    intro X hP hw hK hc i pins s σ H E I hf st hg
    subst hP hw hK
    obtain ⟨⟨old, he⟩, hit, hne, hai, hea⟩ := st
    obtain ⟨xs, hq, hx⟩ := hg
    obtain ⟨its, rv, p, hz⟩ := I.tuple hq
    obtain ⟨f0, f1, f2, f3, f4, f5⟩ := hf it (by simp)
    have hl := rv.length
    have ei : i = its.toArray.size := by simp; omega
    subst ei
    exact wpAny_pyNext_enum_endD (Draws.tuple (A := X.A.in1) (I.ok.hd hc) it a hai its.toArray) he ⟨hit, (show s.heap.IsTuple a its.toArray from p)⟩ fun h' eb => ⟨rfl, I.turned (t' := s.toks) (fun b o hb q => eb b o hb q) f0 f1 f3 f4 f5⟩
  self := fun A i s Q E st h => let ⟨⟨_, he⟩, _⟩ := st; wpAny_pyIter_enum he h
def iEnumA (K : PySem.W.Frag) (ta : TA) : TI := fun σ H R => ta σ H fun vs H1 => ∃ a, vs = [.ref a] ∧ (((∃ xs, SqL K H1 a xs) ∧ R (Ite K a) H1) ∨ ((∃ xs, SqT K H1 a xs) ∧ R (IteT K a) H1))
theorem pi_enumA {X : Cx} {e : Expr} {ta : TA} {p pos tpos : Pos} {elts : List Expr} {kk : Nat} (hg : Gl X "enumerate") (hm : X.mg "enumerate" = none) (ha : PA X [e] ta) (hs : starEach [e] X.env = [(false, eval e X.env)] := by rfl) :
    PI X (.Tuple elts kk tpos) (.Call (.Name "enumerate" p) [e] [] pos) (iEnumA X.K ta) := by
  refine ⟨fun pins s σ H R I h => ?_⟩
  refine Call_ (ld_blt I hg hm boot_enumerate (PyProof.Rows.callWith_type1 (thn (ha.run pos pins s σ H _ I h) fun us s1 ⟨vs, H1, I1, r1, q1⟩ => ?_) hs rfl))
  obtain ⟨a, ex, q1⟩ := q1
  subst ex
  cases r1 with
  | cons r rr =>
    cases rr
    cases r
    have up : ∀ b, b = s1.heap.objs.size + 1 ∨ b = s1.heap.objs.size → s1.heap.objs.size ≤ b := fun b z => by
      rcases z with z | z
      · rw [z]; exact Nat.le_add_right _ _
      · rw [z]; exact Nat.le_refl _
    rcases q1 with ⟨⟨xs, hq⟩, q⟩ | ⟨⟨xs, hq⟩, q⟩
    · obtain ⟨its, rv, p', hz⟩ := I1.list hq
      refine call_enumerate_list p'.isList fun h' he hit hsz hk => wpAny_pyIter_enum he ?_
      have I2 : Inv X pins σ H1 { s1 with heap := h' } := I1.kept (t' := s1.toks) hk
      refine ⟨s1.heap.objs.size + 1, [s1.heap.objs.size + 1, s1.heap.objs.size], _, _, H1, rfl, I2, turn_enum a (s1.heap.objs.size + 1) s1.heap.objs.size, ⟨⟨.none, he⟩, hit, Nat.succ_ne_self _⟩, fun b hb => ?_, q⟩
      have hle := up b (by simpa using hb)
      exact I1.fpOk hle (I1.hok.fresh hle)
    · obtain ⟨its, rv, p', hz⟩ := I1.tuple hq
      have pt : s1.heap.IsTuple a its.toArray := p'
      have al : a < s1.heap.objs.size := by obtain ⟨o, e, _⟩ := pt; exact Heap.lt_size e
      refine PySem.W.mi_enum (PySem.begins_tuple a its.toArray) pt fun h' he hit hsz hk => wpAny_pyIter_enum he ?_
      have I2 : Inv X pins σ H1 { s1 with heap := h' } := I1.kept (t' := s1.toks) hk
      refine ⟨s1.heap.objs.size + 1, [s1.heap.objs.size + 1, s1.heap.objs.size], _, _, H1, rfl, I2, turn_enumT a (s1.heap.objs.size + 1) s1.heap.objs.size, ⟨⟨.none, he⟩, ⟨_, hit, rfl, rfl⟩, Nat.succ_ne_self _, Nat.ne_of_lt al, Nat.ne_of_gt (Nat.lt_succ_of_lt al)⟩, fun b hb => ?_, q⟩
      have hle := up b (by simpa using hb)
      exact I1.fpOk hle (I1.hok.fresh hle)
end Mir
end
section
set_option Elab.async false
set_option linter.all false
set_option maxRecDepth 100000
set_option maxHeartbeats 1000000
/-! Mir, part J: what is walked, mirrored. -/
namespace Mir
open PySem PySem.Spec PyProof.Rows L2
def keyOf : Key → D
  | .inl i => .int i
  | .inr x => .str x
def charsD (y : Str) : List D := y.cps.toList.map fun c => D.str ⟨#[c]⟩
def dIt : D → M (List D)
  | .lst ds => pure ds
  | .ro ds => pure ds
  | .tup ds => pure ds
  | .str y => pure (charsD y)
  | .dic kvs => pure (kvs.map fun kv => keyOf kv.1)
  | .ln ds => pure ds
  | _ => bad
theorem itOk_ln {K : PySem.W.Frag} {mg : Str → Option Value} {S : SA} {G : Hp} {a : Addr} {vs : List V} {ds : List D} (hq : S.L a = some vs) (r : Reps K mg S G vs ds) : ItOk K mg S (Itl K a) G ds where
  go := fun G' H' d' i x le sb st e => by
    obtain ⟨v, e1, rv⟩ := r.get e
    have q : SqL K H' a vs := .inl (.inl (st.l a vs hq).1)
    refine ⟨⟨vs, v, q, e1⟩, fun w H'' hy => ?_⟩
    obtain ⟨eh, k⟩ := hy
    subst eh
    have e2 := k vs q
    rw [e1] at e2
    cases e2
    exact ⟨G', Aft.refl st sb, rv.mono le⟩
  stop := fun G' H' d' le sb st => ⟨vs, .inl (.inl (st.l a vs hq).1), Nat.le_of_eq r.length⟩
def dVals : D → M (List D)
  | .dic kvs => pure (kvs.map fun kv => kv.2)
  | _ => bad
def dItems : D → M (List D)
  | .dic kvs => pure (kvs.map fun kv => D.tup [keyOf kv.1, kv.2])
  | _ => bad
def enumD : Nat → List D → List D
  | _, [] => []
  | i, x :: xs => .tup [.int i, x] :: enumD (i + 1) xs
def dEnum (xs : List D) : M (List D) := match xs with
  | [.lst ds] => pure (enumD 0 ds)
  | [.ro ds] => pure (enumD 0 ds)
  | [.tup ds] => pure (enumD 0 ds)
  | _ => bad
def iAny (K : PySem.W.Frag) (te : TE) : TI := fun σ H R => te σ H fun v H1 => (∃ x, v = .str x ∧ R (Its x) H1) ∨ (∃ a, v = .ref a ∧ (((∃ xs, SqL K H1 a xs) ∧ R (Itl K a) H1) ∨ ((∃ xs, SqT K H1 a xs) ∧ R (Itt K a) H1))) ∨ ∃ d o kvs, v = .ref d ∧ H1 d = some (.frz o (.dK kvs)) ∧ R (Itk d o kvs) H1
theorem pi_any {X : Cx} {tg e : Expr} {te : TE} (he : PE X e te) : PI X tg e (iAny X.K te) := by
  refine ⟨fun pins s σ H R I h => ?_⟩
  refine thn (he.run pins s σ H _ I h) fun v s1 ⟨y, H1, I1, r1, q1⟩ => ?_
  rcases q1 with ⟨x, ex, q⟩ | ⟨a, ea, q⟩ | ⟨d, o, kvs, ed, hd, q⟩
  · subst ex
    obtain ⟨t, rfl⟩ := r1
    cases ha : x.cps.all (· < 128)
    · exact wpAny_pyIter_wide ha (pi_one (tk := s1.toks) I1 _ (turn_str _ x t "str_iterator" (.inr rfl)) ⟨_, Heap.get?_push_size _ rfl, rfl, rfl⟩ q)
    · exact wpAny_pyIter_ascii ha (pi_one (tk := s1.toks) I1 _ (turn_str _ x t "str_ascii_iterator" (.inl rfl)) ⟨_, Heap.get?_push_size _ rfl, rfl, rfl⟩ q)
  · subst ea
    cases r1
    rcases q with ⟨⟨xs, hq⟩, q⟩ | ⟨⟨xs, hq⟩, q⟩
    · obtain ⟨its, rv, p, hz⟩ := I1.list hq
      exact wpAny_pyIter_list p.isList (pi_one (tk := s1.toks) I1 _ (turn_list a _) ⟨_, Heap.get?_push_size _ rfl, rfl, rfl⟩ q)
    · obtain ⟨its, rv, p, hz⟩ := I1.tuple hq
      exact wpAny_pyIter_tuple (show s1.heap.IsTuple a its.toArray from p) (pi_one (tk := s1.toks) I1 _ (turn_tuple a _) ⟨_, Heap.get?_push_size _ rfl, rfl, rfl⟩ q)
  · subst ed
    cases r1
    obtain ⟨hs, hgd, hx, es, ep, vs, hdt, hsz, kv, hm⟩ := I1.frzK hd
    refine iter_keys hs hgd hx hdt (pi_one (tk := s1.toks) I1 _ (turn_keys _ hdt) ⟨_, Heap.get?_push_size _ rfl, rfl, ?_⟩ q)
    rw [hsz] <;> rfl
section
variable {K : PySem.W.Frag} {mg : Str → Option Value} {S : SA} {G : Hp}
theorem rep_key (k : Key) : Rep K mg S G (kV k) (keyOf k) := by
  cases k with
  | inl i => exact .int i
  | inr x => exact .str x
theorem RepK.at : ∀ {vs : List (Key × V)} {ds : List (Key × D)} {i : Nat} {k : Key} {x : D}, RepK K mg S G vs ds → ds[i]? = some (k, x) → ∃ v, vs[i]? = some (k, v) ∧ Rep K mg S G v x
  | _, _, _, _, _, .nil, e => by simp at e
  | _, _, 0, _, _, .cons r _, e => by simp at e; obtain ⟨e1, e2⟩ := e; subst e1; subst e2; exact ⟨_, rfl, r⟩
  | _, _, i + 1, k, x, .cons _ t, e => by
    obtain ⟨u, h1, h2⟩ := RepK.at (i := i) (k := k) (x := x) t (by simpa using e)
    exact ⟨u, by simpa using h1, h2⟩
theorem itOk_s {y : Str} : ItOk K mg S (Its y) G (charsD y) where
  go := fun G' H' d' i x le sb st e => by
    unfold charsD at e
    rw [List.getElem?_map] at e
    cases q : y.cps.toList[i]? with
    | none => rw [q] at e; cases e
    | some c =>
      rw [q] at e
      cases e
      have q' : y.cps[i]? = some c := by rw [← q]; simp
      refine ⟨(Array.getElem?_eq_some_iff.mp q').1, fun w H'' hy => ?_⟩
      obtain ⟨eh, c', ec, ew⟩ := hy
      subst eh
      rw [q'] at ec
      cases ec
      subst ew
      exact ⟨G', Aft.refl st sb, .str _⟩
  stop := fun G' H' d' le sb st => by
    show y.cps.size ≤ (charsD y).length
    unfold charsD
    rw [List.length_map]
    exact Nat.le_of_eq (Array.length_toList).symm
theorem itOk_k {d : Addr} {o : Obj} {vs : List (Key × V)} {ds : List (Key × D)} (h : G d = some (.frz o (.dK vs))) (r : RepK K mg S G vs ds) : ItOk K mg S (Itk d o vs) G (ds.map fun kv => keyOf kv.1) where
  go := fun G' H' d' i x le sb st e => by
    rw [List.getElem?_map] at e
    cases q : ds[i]? with
    | none => rw [q] at e; cases e
    | some kx =>
      obtain ⟨k, z⟩ := kx
      rw [q] at e
      cases e
      obtain ⟨v, e1, rv⟩ := r.at q
      refine ⟨⟨(le.trans sb.le) _ _ h, (List.getElem?_eq_some_iff.mp e1).1⟩, fun w H'' hy => ?_⟩
      obtain ⟨eh, k', v', e2, ew⟩ := hy
      subst eh
      rw [e1] at e2
      cases e2
      subst ew
      exact ⟨G', Aft.refl st sb, rep_key k⟩
  stop := fun G' H' d' le sb st => ⟨(le.trans sb.le) _ _ h, by rw [List.length_map, r.length]; exact Nat.le_refl _⟩
theorem itOk_v {d : Addr} {o : Obj} {vs : List (Key × V)} {ds : List (Key × D)} (h : G d = some (.frz o (.dK vs))) (r : RepK K mg S G vs ds) : ItOk K mg S (Itd d o vs) G (ds.map fun kv => kv.2) where
  go := fun G' H' d' i x le sb st e => by
    rw [List.getElem?_map] at e
    cases q : ds[i]? with
    | none => rw [q] at e; cases e
    | some kx =>
      obtain ⟨k, z⟩ := kx
      rw [q] at e
      cases e
      obtain ⟨v, e1, rv⟩ := r.at q
      refine ⟨⟨(le.trans sb.le) _ _ h, (List.getElem?_eq_some_iff.mp e1).1⟩, fun w H'' hy => ?_⟩
      obtain ⟨eh, k', e2⟩ := hy
      subst eh
      rw [e1] at e2
      cases e2
      exact ⟨G', Aft.refl st sb, rv.mono le⟩
  stop := fun G' H' d' le sb st => ⟨(le.trans sb.le) _ _ h, by rw [List.length_map, r.length]; exact Nat.le_refl _⟩
theorem itOk_i {d : Addr} {o : Obj} {vs : List (Key × V)} {ds : List (Key × D)} (h : G d = some (.frz o (.dK vs))) (r : RepK K mg S G vs ds) : ItOk K mg S (Iti d o vs) G (ds.map fun kv => D.tup [keyOf kv.1, kv.2]) where
  go := fun G' H' d' i x le sb st e => by
    rw [List.getElem?_map] at e
    cases q : ds[i]? with
    | none => rw [q] at e; cases e
    | some kx =>
      obtain ⟨k, z⟩ := kx
      rw [q] at e
      cases e
      obtain ⟨v, e1, rv⟩ := r.at q
      refine ⟨⟨(le.trans sb.le) _ _ h, (List.getElem?_eq_some_iff.mp e1).1⟩, fun w H'' hy => ?_⟩
      obtain ⟨T, k', v', e2, ew, hT, eh⟩ := hy
      rw [e1] at e2
      cases e2
      subst ew
      subst eh
      exact ⟨_, Aft.new st sb hT, .tup (.inl (.inl upd_same)) (.cons (rep_key k) (.one (rv.mono (le.trans (Le.new (sb.free hT))))))⟩
  stop := fun G' H' d' le sb st => ⟨(le.trans sb.le) _ _ h, by rw [List.length_map, r.length]; exact Nat.le_refl _⟩
theorem enumD_len : ∀ (k : Nat) (ds : List D), (enumD k ds).length = ds.length
  | _, [] => rfl
  | k, _ :: ds => congrArg (· + 1) (enumD_len (k + 1) ds)
theorem enumD_get : ∀ (k i : Nat) (ds : List D) {z : D}, (enumD k ds)[i]? = some z → ∃ x, ds[i]? = some x ∧ z = .tup [.int ((k + i : Nat) : Int), x]
  | _, _, [], _, e => by simp [enumD] at e
  | k, 0, x :: ds, z, e => by simp [enumD] at e; exact ⟨x, rfl, e.symm⟩
  | k, i + 1, x :: ds, z, e => by
    obtain ⟨y, e1, e2⟩ := enumD_get (k + 1) i ds (z := z) (by simpa [enumD] using e)
    exact ⟨y, by simpa using e1, by rw [e2]; congr 4; omega⟩
theorem itOk_el {a : Addr} {vs : List V} {ds : List D} (hq : SqL K G a vs) (r : Reps K mg S G vs ds) : ItOk K mg S (Ite K a) G (enumD 0 ds) where
  go := fun G' H' d' i z le sb st e => by
    obtain ⟨x, e0, ez⟩ := enumD_get 0 i ds e
    subst ez
    obtain ⟨v, e1, rv⟩ := r.get e0
    have q := (le.trans sb.le).l hq
    refine ⟨⟨vs, v, q, e1⟩, fun w H'' hy => ?_⟩
    obtain ⟨T, v', ew, hT, eh, k⟩ := hy
    have e2 := k vs q
    rw [e1] at e2
    cases e2
    subst ew
    subst eh
    rw [Nat.zero_add]
    exact ⟨_, Aft.new st sb hT, .tup (.inl (.inl upd_same)) (.cons (.int _) (.one (rv.mono (le.trans (Le.new (sb.free hT))))))⟩
  stop := fun G' H' d' le sb st => ⟨vs, (le.trans sb.le).l hq, by rw [enumD_len, r.length]; exact Nat.le_refl _⟩
theorem itOk_et {a : Addr} {vs : List V} {ds : List D} (hq : SqT K G a vs) (r : Reps K mg S G vs ds) : ItOk K mg S (IteT K a) G (enumD 0 ds) where
  go := fun G' H' d' i z le sb st e => by
    obtain ⟨x, e0, ez⟩ := enumD_get 0 i ds e
    subst ez
    obtain ⟨v, e1, rv⟩ := r.get e0
    have q := (le.trans sb.le).t hq
    refine ⟨⟨vs, v, q, e1⟩, fun w H'' hy => ?_⟩
    obtain ⟨T, v', ew, hT, eh, k⟩ := hy
    have e2 := k vs q
    rw [e1] at e2
    cases e2
    subst ew
    subst eh
    rw [Nat.zero_add]
    exact ⟨_, Aft.new st sb hT, .tup (.inl (.inl upd_same)) (.cons (.int _) (.one (rv.mono (le.trans (Le.new (sb.free hT))))))⟩
  stop := fun G' H' d' le sb st => ⟨vs, (le.trans sb.le).t hq, by rw [enumD_len, r.length]⟩
end
section
variable {X : Cx} {os : List Nat} {e a tg : Expr} {te : TE} {ta : TA} {m : Ev → M D} {ms : Ev → M (List D)} {pos p' apos cpos tpos : Pos} {elts : List Expr} {kk : Nat}
def iOn (f : D → M (List D)) (m : Ev → M D) : Ev → M (List D) := fun env => m env >>= f
theorem pmi_any (h : PM X os e te m) : PMI X os tg e (iAny X.K te) (iOn dIt m) := by
  obtain ⟨p, s⟩ := h
  refine ⟨pi_any p, fun C G σ H env d R I w => ?_⟩
  unfold iOn at w
  rw [Wp_bind] at w
  refine s C G σ H env d _ I (w.imp fun x d1 k v H1 G1 A r => ?_)
  unfold dIt at k
  split at k
  · cases r with
    | lst hq rs => exact .inr (.inl ⟨_, rfl, .inl ⟨⟨_, A.sub.le.l (.inl (.inl hq))⟩, k _ H1 G1 A (itOk_l (.inl (.inl hq)) rs)⟩⟩)
  · cases r with
    | ro hq rs => exact .inr (.inl ⟨_, rfl, .inl ⟨⟨_, A.sub.le.l hq⟩, k _ H1 G1 A (itOk_l hq rs)⟩⟩)
  · cases r with
    | tup hq rs => exact .inr (.inl ⟨_, rfl, .inr ⟨⟨_, A.sub.le.t hq⟩, k _ H1 G1 A (itOk_t hq rs)⟩⟩)
  · cases r
    exact .inl ⟨_, rfl, k _ H1 G1 A itOk_s⟩
  · cases r with
    | dic h r => exact .inr (.inr ⟨_, _, _, rfl, A.sub.le _ _ h, k _ H1 G1 A (itOk_k h r)⟩)
  · cases r with
    | ln hq rs => exact .inr (.inl ⟨_, rfl, .inl ⟨⟨_, .inl (.inl (A.st.l _ _ hq).1)⟩, k _ H1 G1 A (itOk_ln hq rs)⟩⟩)
  · exact k.elim
theorem pmi_vals (h : PM X os e te m) (hbase : attributeBase e "values" X.env (eval e X.env) = eval e X.env := by rfl) (hline : (apos.endLine == cpos.line) = true := by rfl) : PMI X os tg (.Call (.Attribute e "values" apos) [] [] cpos) (iVals te) (iOn dVals m) := by
  obtain ⟨p, s⟩ := h
  refine ⟨pi_values p hbase hline, fun C G σ H env d R I w => ?_⟩
  unfold iOn at w
  rw [Wp_bind] at w
  refine s C G σ H env d _ I (w.imp fun x d1 k v H1 G1 A r => ?_)
  unfold dVals at k
  split at k
  · cases r with
    | dic h r => exact ⟨_, _, _, rfl, A.sub.le _ _ h, k _ H1 G1 A (itOk_v h r)⟩
  · exact k.elim
theorem pmi_items (h : PM X os e te m) (hbase : attributeBase e "items" X.env (eval e X.env) = eval e X.env := by rfl) (hline : (apos.endLine == cpos.line) = true := by rfl) : PMI X os (.Tuple elts kk tpos) (.Call (.Attribute e "items" apos) [] [] cpos) (iItems te) (iOn dItems m) := by
  obtain ⟨p, s⟩ := h
  refine ⟨pi_items p hbase hline, fun C G σ H env d R I w => ?_⟩
  unfold iOn at w
  rw [Wp_bind] at w
  refine s C G σ H env d _ I (w.imp fun x d1 k v H1 G1 A r => ?_)
  unfold dItems at k
  split at k
  · cases r with
    | dic h r => exact ⟨_, _, _, rfl, A.sub.le _ _ h, k _ H1 G1 A (itOk_i h r)⟩
  · exact k.elim
def iOns (f : List D → M (List D)) (m : Ev → M (List D)) : Ev → M (List D) := fun env => m env >>= f
theorem pmi_enum (hg : Gl X "enumerate") (hm : X.mg "enumerate" = none) (ha : PMA X os [e] ta ms) (hs : starEach [e] X.env = [(false, eval e X.env)] := by rfl) : PMI X os (.Tuple elts kk tpos) (.Call (.Name "enumerate" p') [e] [] pos) (iEnumA X.K ta) (iOns dEnum ms) := by
  obtain ⟨p, s⟩ := ha
  refine ⟨pi_enumA hg hm p hs, fun C G σ H env d R I w => ?_⟩
  unfold iOns at w
  rw [Wp_bind] at w
  refine s C G σ H env d _ I (w.imp fun xs d1 k vs H1 G1 A r => ?_)
  unfold dEnum at k
  split at k
  · cases r with
    | cons r rr =>
      cases rr
      cases r with
      | lst hq rs => exact ⟨_, rfl, .inl ⟨⟨_, A.sub.le.l (.inl (.inl hq))⟩, k _ H1 G1 A (itOk_el (.inl (.inl hq)) rs)⟩⟩
  · cases r with
    | cons r rr =>
      cases rr
      cases r with
      | ro hq rs => exact ⟨_, rfl, .inl ⟨⟨_, A.sub.le.l hq⟩, k _ H1 G1 A (itOk_el hq rs)⟩⟩
  · cases r with
    | cons r rr =>
      cases rr
      cases r with
      | tup hq rs => exact ⟨_, rfl, .inr ⟨⟨_, A.sub.le.t hq⟩, k _ H1 G1 A (itOk_et hq rs)⟩⟩
  · exact k.elim
end
end Mir
end
section
set_option Elab.async false
set_option linter.all false
set_option maxRecDepth 100000
set_option maxHeartbeats 1000000
/-! Mir, part K: whatever it is: x[i], in, dict(..), d.get; displays and comprehensions of dicts. -/
namespace Mir
open PySem PySem.Spec PyProof.Rows L2
def tOrE (t1 t2 : TE) : TE := fun σ H Q => t1 σ H Q ∨ t2 σ H Q
theorem pe_orE {X : Cx} {e : Expr} {t1 t2 : TE} (h1 : PE X e t1) (h2 : PE X e t2) : PE X e (tOrE t1 t2) :=
  ⟨fun pins s σ H Q I w => w.elim (h1.run pins s σ H Q I) (h2.run pins s σ H Q I)⟩
section
variable {X : Cx} {fr : Bool} {os os' ol : List Nat} {e a b c : Expr} {es : List Expr} {te ta tb tc t1 t2 : TE} {tas : TA} {m ma mb mc m1 m2 : Ev → M D} {ms : Ev → M (List D)} {pos p' : Pos} {k : Nat} {x y : Str} {g g1 g2 : D → D → M D}
theorem pm_un (h1 : PM X os e t1 m1) (h2 : PM X os e t2 m2) (h : ∀ env d (P : D → Drw → Prop), Wp (m env d) P → Wp (m1 env d) P ∨ Wp (m2 env d) P) : PM X os e (tOrE t1 t2) m :=
  ⟨pe_orE h1.p h2.p, fun C G σ H env d Q I w => (h env d _ w).elim (fun w => .inl (h1.s C G σ H env d Q I w)) fun w => .inr (h2.s C G σ H env d Q I w)⟩
theorem pmf_un (h1 : PMF X os e t1 m1) (h2 : PMF X os e t2 m2) (h : ∀ env d (P : D → Drw → Prop), Wp (m env d) P → Wp (m1 env d) P ∨ Wp (m2 env d) P) : PMF X os e (tOrE t1 t2) m :=
  ⟨pe_orE h1.p h2.p, fun C G σ H env d Q I w => (h env d _ w).elim (fun w => .inl (h1.s C G σ H env d Q I w)) fun w => .inr (h2.s C G σ H env d Q I w)⟩
theorem eBin_or (h : ∀ x y d (P : D → Drw → Prop), Wp (g x y d) P → Wp (g1 x y d) P ∨ Wp (g2 x y d) P) (env : Ev) (d : Drw) (P : D → Drw → Prop) (w : Wp (eBin g ma mb env d) P) : Wp (eBin g1 ma mb env d) P ∨ Wp (eBin g2 ma mb env d) P := by
  unfold eBin at w ⊢
  rw [Wp_bind] at w ⊢
  rw [Wp_bind]
  cases q : ma env d with
  | bad => rw [q] at w; exact w.elim
  | ok x d1 =>
    rw [q] at w
    have w : Wp ((mb env >>= fun y => g x y) d1) P := w
    show Wp ((mb env >>= fun y => g1 x y) d1) P ∨ Wp ((mb env >>= fun y => g2 x y) d1) P
    rw [Wp_bind] at w ⊢
    rw [Wp_bind]
    cases q2 : mb env d1 with
    | bad => rw [q2] at w; exact w.elim
    | ok y d2 => rw [q2] at w; exact h x y d2 P w
theorem eUn_or {g g1 g2 : D → M D} (h : ∀ x d (P : D → Drw → Prop), Wp (g x d) P → Wp (g1 x d) P ∨ Wp (g2 x d) P) (env : Ev) (d : Drw) (P : D → Drw → Prop) (w : Wp (eUn g m env d) P) : Wp (eUn g1 m env d) P ∨ Wp (eUn g2 m env d) P := by
  unfold eUn at w ⊢
  rw [Wp_bind] at w ⊢
  rw [Wp_bind]
  cases q : m env d with
  | bad => rw [q] at w; exact w.elim
  | ok x d1 => rw [q] at w; exact h x d1 P w
theorem pmc_un (h1 : PMC X os e t1 m1) (h2 : PMC X os e t2 m2) (h : ∀ env d (P : D → Drw → Prop), Wp (m env d) P → Wp (m1 env d) P ∨ Wp (m2 env d) P) : PMC X os e (tOrE t1 t2) m := by
  have u := pm_un h1.ev h2.ev h
  exact ⟨u, ⟨⟨fun pins s σ H Q I w => w.elim (h1.ts.p.run pins s σ H Q I) (h2.ts.p.run pins s σ H Q I)⟩, fun C => simT_val (u.s C)⟩⟩
/-- x[i] -/
def dAt (x y : D) : M D := match x with
  | .dic kvs => dGetD (.dic kvs) y
  | x => dIx x y
theorem pm_at (hr : Room k X.A) (ha : PMB X os a ta ma) (hb : PMB X os b tb mb) (h1 : NoSl b := by exact fun _ _ => rfl) (h2 : PlainIx b := by exact fun _ _ => rfl) : PM X os (.Subscript a b pos) (tOrE (tDGet ta tb) (tOp (rIx X.K) ta tb)) (eBin dAt ma mb) :=
  pm_un (pm_getD hr ha hb h1) (pm_ix ha hb h2) (eBin_or fun x y d P w => by
    cases x with
    | dic kvs => exact .inl w
    | _ => exact .inr w)
/-- y in x -/
def dIn (neg : Bool) (x y : D) : M D := match y with
  | .dic kvs => dInD neg x (.dic kvs)
  | .str z => dInT neg x (.str z)
  | y => dInS neg x y
theorem pm_in (hr : Room k X.A) (ha : PMB X os a ta ma) (hb : PMB X os b tb mb) (hm : behindInMarks .In b = false := by rfl) : PMC X os (.Compare a [.In] [b] pos) (tOrE (tDIn ta tb) (tOrE (tOp (fun x y H Q => ∃ (c : Nat) (z : Str), x = .str ⟨#[c]⟩ ∧ y = .str z ∧ Q (.bl (decide (c ∈ z.cps.toList))) H) ta tb) (tOp (rIn X.K false) ta tb))) (eBin (dIn false) ma mb) :=
  pmc_un (pm_inD hr ha hb hm) (pmc_un (pm_inT ha hb hm) (pm_inS ha hb hm) (m := eBin (fun x y => match y with
    | .str z => dInT false x (.str z)
    | y => dInS false x y) ma mb) (eBin_or fun x y d P w => by
      cases y with
      | str z => exact .inl w
      | _ => exact .inr w)) (eBin_or fun x y d P w => by
    cases y with
    | dic kvs => exact .inl w
    | _ => exact .inr w)
def dNin (x y : D) : M D := match y with
  | .dic kvs => dInD true x (.dic kvs)
  | y => dInS true x y
theorem pm_nin (hr : Room k X.A) (ha : PMB X os a ta ma) (hb : PMB X os b tb mb) (hm : behindInMarks .NotIn b = false := by rfl) : PMC X os (.Compare a [.NotIn] [b] pos) (tOrE (tDNotIn ta tb) (tOp (rIn X.K true) ta tb)) (eBin dNin ma mb) :=
  pmc_un (pm_notInD hr ha hb hm) (pm_notInS ha hb hm) (eBin_or fun x y d P w => by
    cases y with
    | dic kvs => exact .inl w
    | _ => exact .inr w)
/-- dict(x) -/
def dDictC : D → M D
  | .dic kvs => pure (.dic kvs)
  | _ => bad
theorem call_dictC : CallR X (.type "dict") (fun xs H Q => ∃ a kvs, xs = [.ref a] ∧ Rd H a (.dK kvs) ∧ ∀ p, H p = none → Q (.ref p) (upd H p (.dK kvs))) := fun pins s σ H xs us Q I r h => by
  obtain ⟨a, kvs, ex, ha, q⟩ := h
  subst ex
  obtain ⟨u, eu, ru⟩ := vals1 r
  subst eu
  cases ru
  exact d_copyOf I ha fun p s' hp J => ⟨.ref p, _, J, rfl, q p hp⟩
theorem pmf_dictC (hg : Gl X "dict") (hm : X.mg "dict" = none) (ha : PMB X os e te m) (he : starEach [e] X.env = (false, eval e X.env) :: starEach [] X.env := by rfl) (hpl : (backTo pos (starEach [] X.env)).any (·.1) = false := by rfl) :
    PMF X os (.Call (.Name "dict" p') [e] [] pos) (tCB (fun xs H Q => ∃ a kvs, xs = [.ref a] ∧ Rd H a (.dK kvs) ∧ ∀ p, H p = none → Q (.ref p) (upd H p (.dK kvs))) (tCons te tNil)) (eUn dDictC m) :=
  pmf_callT1 call_dictC (fun S G H d x dx Q st sb rx w => by
    cases dx with
    | dic xs =>
      obtain ⟨a, vs, e1, h1, rr, n1⟩ := rx.dic' sb
      exact ⟨a, vs, by rw [e1], h1, fun p hp => w _ _ _ (Aft.newF st sb hp) (.dic hp (sb.free hp) upd_same rr)⟩
    | _ => exact w.elim) hg hm (by decide +kernel) ha (by decide) (by decide) he hpl
def dDict : D → M D
  | .dic kvs => pure (.dic kvs)
  | x => dDictP x
theorem pmf_dict (hc : X.calm = true) (hg : Gl X "dict") (hm : X.mg "dict" = none) (ha : PMB X os e te m) (he : starEach [e] X.env = (false, eval e X.env) :: starEach [] X.env := by rfl) (hpl : (backTo pos (starEach [] X.env)).any (·.1) = false := by rfl) :
    PMF X os (.Call (.Name "dict" p') [e] [] pos) (tOrE (tCB (fun xs H Q => ∃ a kvs, xs = [.ref a] ∧ Rd H a (.dK kvs) ∧ ∀ p, H p = none → Q (.ref p) (upd H p (.dK kvs))) (tCons te tNil)) (tCB (fun xs H Q => ∃ (a : Addr) (ps : List Addr) (kvs : List (Key × V)), xs = [.ref a] ∧ SqL X.K H a (ps.map V.ref) ∧ Paired (fun p kv => SqT X.K H p [kV kv.1, kv.2]) ps kvs ∧
    ∀ p, H p = none → Q (.ref p) (upd H p (.dK (mergeK [] kvs)))) (tCons te tNil))) (eUn dDict m) :=
  pmf_un (pmf_dictC hg hm ha he hpl) (pmf_dictP hc hg hm ha he hpl) (eUn_or fun x d P w => by
    cases x with
    | dic kvs => exact .inl w
    | _ => exact .inr w)

/-! ### d.get(y, z), y may be None -/
def keyN : D → Option (Option Key)
  | .non => some none
  | x => (keyD x).map some
def dGet2 (x y z : D) : M D := match x with
  | .dic kvs => match keyN y with
    | some (some k) => pure ((lookD kvs k).getD z)
    | some none => pure z
    | none => bad
  | _ => bad
def eTri (g : D → D → D → M D) (ma mb mc : Ev → M D) : Ev → M D := fun env => ma env >>= fun x => mb env >>= fun y => mc env >>= fun z => g x y z
def tGetN (td ty tx : TE) : TE := fun σ H Q => td σ H fun x H1 => ∃ a, x = .ref a ∧ IsD H1 a ∧ ty σ H1 fun y H2 => tx σ H2 fun z H3 => (∃ o, DGet H3 a y o ∧ Q (o.getD z) H3) ∨ (y = .non ∧ (∃ kvs, Rd H3 a (.dK kvs)) ∧ Q z H3)
theorem d_getNone {pins : List (Addr × Obj)} {σ : St} {H : Hp} {s : Shared} {ad : Addr} {kvs : List (Key × V)} {A : Around} {E : Value → Shared → Prop} {r : Value} {Q : Value → Shared → Prop} (I : Inv X pins σ H s) (e : Rd H ad (.dK kvs)) (h : ∀ s', Inv X pins σ H s' → Q r s') :
    wpAny (model X.prog X.w) A (call (.builtin "dict.get") [.ref ad, .none, r]) Q E s := by
  obtain ⟨_, hd, vs, _, dd⟩ := dk_rd I.hok e
  obtain ⟨f, hm, hf⟩ := none_map dd
  refine call_meetsIn PySem.F.slot_dict_get dd.typeIs PySem.F.entry_dict_get (PySem.F.args_dict_get_3 _ _ _) (meets_dict_get_default (noneKind X.prog X.w) ad (k := none) (show (noneKind X.prog X.w).is none .none = true from rfl) hd r) ⟨_, hm, ?_⟩
  rw [hf]
  exact h _ (I.tok _)
theorem pe_getN {o f : Expr} {apos cpos : Pos} {td ty tx : TE} (hu : X.A.units + 1 < cLine) (ho : PE X o td) (he : PE X e ty) (hf : PE X f tx) (mm : M2 X o "get" apos e f cpos) : PE X (.Call (.Attribute o "get" apos) [e, f] [] cpos) (tGetN td ty tx) := by
  refine ⟨fun pins s σ H Q I h => ?_⟩
  refine wpAny_Call_method mm.base mm.few mm.line PySem.F.plainAttrs_dict PySem.F.slot_dict_get PySem.F.type_dict_get (thn (ho.run pins s σ H _ I h) fun u s1 ⟨x, H1, I1, rx, ad, ex, d, q1⟩ => ?_)
  subst ex
  cases rx
  obtain ⟨t1, t2, _⟩ := isD_at I1 d
  refine ⟨t1, t2, ?_⟩
  rw [mm.trees]
  refine Calls.callWith_builtin rfl (Calls.evalArgs_plain (Calls.spliced_cons (thn (he.run pins s1 σ H1 _ I1 q1) fun iv s2 ⟨y, H2, I2, ry, q2⟩ => Calls.spliced_cons (thn (hf.run pins s2 σ H2 _ I2 q2) fun fv s3 ⟨z, H3, I3, rz, q3⟩ => Calls.spliced_nil ?_))))
  rcases q3 with ⟨ov, g, q⟩ | ⟨ey, ⟨kvs, hk⟩, q⟩
  · exact d_get2 hu I3 g ry rz fun w' s4 I4 rw' => ⟨_, H3, I4, rw', q⟩
  · subst ey
    cases ry
    exact d_getNone I3 hk fun s4 I4 => ⟨_, H3, I4, rz, q⟩
theorem pm_get2 {o f : Expr} {apos cpos : Pos} {td ty tx : TE} (hr : Room k X.A) (ho : PMB X os o td ma) (he : PMB X os e ty mb) (hf : PM X os f tx mc) (mm : M2 X o "get" apos e f cpos := by exact ⟨rfl, rfl, rfl, rfl⟩) : PM X os (.Call (.Attribute o "get" apos) [e, f] [] cpos) (tGetN td ty tx) (eTri dGet2 ma mb mc) := by
  refine ⟨pe_getN (hu_of hr) ho.p he.p hf.p mm, fun C G σ H env d Q I w => ?_⟩
  unfold eTri at w
  rw [Wp_bind] at w
  refine ho.s C G σ H env d _ I (w.imp fun x d1 w1 v1 H1 G1 A1 r1 => ?_)
  have wd : ∀ kvs, x = .dic kvs → ∃ a, v1 = .ref a ∧ IsD H1 a := fun kvs e => by
    subst e
    obtain ⟨a, vs, e1, h1, rr, n1⟩ := r1.dic' A1.sub
    exact ⟨a, e1, .inl ⟨vs, h1⟩⟩
  rw [Wp_bind] at w1
  cases hx : x with
  | dic kvs =>
    obtain ⟨a, e1, hd⟩ := wd kvs hx
    refine ⟨a, e1, hd, ?_⟩
    refine he.s C G1 σ H1 env d1 _ (I.later A1) (w1.imp fun y d2 w2 v2 H2 G2 A2 r2 => ?_)
    rw [Wp_bind] at w2
    refine hf.s C G2 σ H2 env d2 _ (I.later (A1.trans A2)) (w2.imp fun z d3 w3 v3 H3 G3 A3 r3 => ?_)
    rw [hx] at r1 w3
    obtain ⟨a', vs, e1', h1, rr, n1⟩ := ((r1.later A2).later A3).dic' A3.sub
    rw [e1] at e1'
    cases e1'
    have A := A1.trans (A2.trans A3)
    have r2' := r2.later A3
    cases hk : keyN y with
    | none => simp only [dGet2, hk] at w3; exact w3.elim
    | some o =>
      cases o with
      | some kk =>
        simp only [dGet2, hk] at w3
        have hk' : keyD y = some kk := by
          cases y with
          | non => cases hk
          | int i => cases hk; rfl
          | str s => cases hk; rfl
          | _ => cases hk
        refine .inl ⟨valV vs kk, .inl ⟨vs, kk, h1, key_rep r2' hk', rfl⟩, ?_⟩
        cases hl : lookD kvs kk with
        | none =>
          rw [(rr.look kk).2 hl]
          rw [hl] at w3
          exact w3 _ _ _ A r3
        | some q =>
          obtain ⟨v, ev, rv⟩ := (rr.look kk).1 q hl
          rw [ev]
          rw [hl] at w3
          exact w3 _ _ _ A rv
      | none =>
        simp only [dGet2, hk] at w3
        have ey : y = .non := by
          cases y with
          | non => rfl
          | int i => cases hk
          | str s => cases hk
          | _ => cases hk
        subst ey
        have ev : v2 = .non := by
          cases r2 with
          | of r => cases r; rfl
        exact .inr ⟨ev, ⟨vs, h1⟩, w3 _ _ _ A r3⟩
  | _ =>
    exfalso
    rw [hx] at w1
    cases q : mb env d1 with
    | bad => rw [q] at w1; exact w1.elim
    | ok y d2 =>
      rw [q] at w1
      have w1 : Wp ((mc env >>= fun z => dGet2 _ y z) d2) _ := w1
      rw [Wp_bind] at w1
      cases q3 : mc env d2 with
      | bad => rw [q3] at w1; exact w1.elim
      | ok z d3 => rw [q3] at w1; exact w1.elim

/-! ### {k: v, ..} -/
structure PMP (X : Cx) (os : List Nat) (pos : Pos) (keys : List (Option Expr)) (values : List Expr) (trs : List (TE × TE)) (m : Ev → M (List (Key × D))) : Prop where
  p : PPs X pos keys values trs
  s : ∀ C G σ H env d (Q : List (V × V) → Hp → Prop), IM X.K X.mg C os env σ H G d → Wp (m env d) (fun kds d' => ∀ kvs H' G', Aft C.S G H G' H' d' → RepK X.K X.mg C.S G' kvs kds → Q (kvs.map fun kv => (kV kv.1, kv.2)) H') → tPairs trs σ H Q
def pNil : Ev → M (List (Key × D)) := fun _ => pure []
def pCons (mk mv : Ev → M D) (mr : Ev → M (List (Key × D))) : Ev → M (List (Key × D)) := fun env => mk env >>= fun k => mv env >>= fun v => mr env >>= fun r => match keyD k with
  | some k => pure ((k, v) :: r)
  | none => bad
variable {keys : List (Option Expr)} {values : List Expr} {trs : List (TE × TE)} {mr : Ev → M (List (Key × D))}
theorem pmp_nil : PMP X os pos [] [] [] pNil := ⟨pps_nil, fun C G σ H env d Q I w => w [] H G (Aft.refl I.st I.sub) .nil⟩
theorem RepK.mono' {K : PySem.W.Frag} {mg : Str → Option Value} {S : SA} {G G' : Hp} {vs : List (Key × V)} {ds : List (Key × D)} (h : RepK K mg S G vs ds) (e : Le G G') : RepK K mg S G' vs ds := RepK.mono e h
theorem pmp_cons (hk : PM X os a ta ma) (hv : PM X os b tb mb) (hr : PMP X os pos keys values trs mr) : PMP X os pos (some a :: keys) (b :: values) ((ta, tb) :: trs) (pCons ma mb mr) := by
  refine ⟨pps_cons hk.p hv.p hr.p, fun C G σ H env d Q I w => ?_⟩
  unfold pCons at w
  rw [Wp_bind] at w
  refine hk.s C G σ H env d _ I (w.imp fun x d1 w1 v1 H1 G1 A1 r1 => ?_)
  rw [Wp_bind] at w1
  refine hv.s C G1 σ H1 env d1 _ (I.later A1) (w1.imp fun y d2 w2 v2 H2 G2 A2 r2 => ?_)
  rw [Wp_bind] at w2
  refine hr.s C G2 σ H2 env d2 _ (I.later (A1.trans A2)) (w2.imp fun kds d3 w3 kvs H3 G3 A3 r3 => ?_)
  cases hk : keyD x with
  | none => simp only [hk] at w3; exact w3.elim
  | some kk =>
    simp only [hk] at w3
    have e := key_rep (RepT.of (H := H1) r1) hk
    subst e
    exact w3 ((kk, v2) :: kvs) _ _ (A1.trans (A2.trans A3)) (.cons (r2.mono A3.gm) r3)
def eDisp (m : Ev → M (List (Key × D))) : Ev → M D := fun env => m env >>= fun kds => guardB (decide (kds.length ≤ 15)) (pure (.dic (mergeD [] kds)))
theorem pmf_disp (h : PMP X os pos keys values trs mr) (hall : keys.all (·.isSome) = true := by rfl) (hl : keys.length = values.length := by rfl) (h0 : keys ≠ [] := by exact fun z => nomatch z) (h15 : keys.length ≤ 15 := by decide) : PMF X os (.Dict keys values pos) (tDisp trs) (eDisp mr) := by
  refine ⟨pe_disp h.p hall hl h0 h15, fun C G σ H env d Q I w => ?_⟩
  intro p hp
  have AN : Aft C.S G H G (upd H p (.dK [])) d := Aft.newF I.st I.sub hp
  have gp := I.sub.free hp
  unfold eDisp at w
  rw [Wp_bind] at w
  refine h.s C G σ _ env d _ (I.later AN) (w.imp fun kds d1 w1 kvs H1 G1 A1 r1 => ?_)
  rw [Wp_guard] at w1
  have ps : ¬ inS C.S p := I.st.off hp
  have h1p : H1 p = some (.dK []) := A1.hp p _ upd_same ps
  have g1p : G1 p = none := A1.gn p (by rw [upd_same]; exact fun z => nomatch z) gp
  refine ⟨h1p, kvs, rfl, by rw [r1.length]; exact of_decide_eq_true w1.1, ?_⟩
  have A := AN.trans A1
  refine w1.2 _ _ G1 ?_ (.dic hp g1p upd_same (RepK.merge _ _ _ _ r1 .nil))
  exact {
    hp := fun b o e n => by
      have z : b ≠ p := fun z => by rw [z, hp] at e; cases e
      rw [upd_ne z]
      exact A.hp b o e n
    gm := A.gm
    gn := A.gn
    st := A.st.alt ps
    sub := fun b o e => by
      have z : b ≠ p := fun z => by rw [z, g1p] at e; cases e
      rw [upd_ne z]
      exact A.sub b o e }
end

/-! ### {k: v for ..} -/
def dcGo (e0 : Ev) (t : Ev → D → Option Ev) (n : Ev → M Bool) (mk mv : Ev → M D) : List D → List (Key × D) → M (List (Key × D))
  | [], acc => pure acc
  | x :: xs, acc => match t e0 x with
    | none => bad
    | some e => n e >>= fun b => if b = true then mk e >>= fun y => mv e >>= fun z => (match keyD y with
        | some k => guardB (decide (acc.length < sizeLine)) (dcGo e0 t n mk mv xs (putD acc k z))
        | none => bad) else dcGo e0 t n mk mv xs acc
def eDc (mi : Ev → M (List D)) (vs : List Nat) (t : Ev → D → Option Ev) (n : Ev → M Bool) (mk mv : Ev → M D) : Ev → M D := fun env => mi env >>= fun ds => dcGo (wipeE env vs) t n mk mv ds [] >>= fun ys => pure (.dic ys)
theorem simF_dc {K : PySem.W.Frag} {mg : Str → Option Value} {C : Ct} {os : List Nat} {mi : Ev → M (List D)} {vs tv : List Nat} {t : Ev → D → Option Ev} {n : Ev → M Bool} {mk mv : Ev → M D} {wi : TI} {g : TG} {tt : TT} {tk te : TE} (si : SimI K mg C os wi mi) (sg : SimG K mg C os tv g t) (st : SimT K mg C os tt n) (sk : SimE K mg C os tk mk) (se : SimE K mg C os te mv) (hv : ∀ j ∈ tv, j ∈ vs) :
    SimF K mg C os (tDc wi g tt tk te vs) (eDc mi vs t n mk mv) := by
  intro G σ H env d Q I w
  unfold eDc at w
  rw [Wp_bind] at w
  refine si G σ H env d _ I (w.imp fun ds d1 w1 J H1 G1 A1 it => ?_)
  intro p hp
  have AN : Aft C.S G1 H1 G1 (upd H1 p (.dK [])) d1 := Aft.newF A1.st A1.sub hp
  rw [Wp_bind] at w1
  refine ⟨fun i m H' => m = ds.length - i ∧ i ≤ ds.length ∧ ∃ G' d' acc accD, Aft C.S G1 H1 G' H' d' ∧ G' p = none ∧ H' p = some (.dK acc) ∧ RepK K mg C.S G' acc accD ∧ Wp (dcGo (wipeE env vs) t n mk mv (ds.drop i) accD d') _,
    ⟨ds.length, rfl, Nat.zero_le _, G1, d1, [], [], AN, A1.sub.free hp, upd_same, .nil, w1⟩, fun i m H' hw => ?_⟩
  obtain ⟨em, hi, G', d', acc, accD, A', gp, hpp, ra, w'⟩ := hw
  subst em
  have psub : ¬ inS C.S p := A1.st.off hp
  by_cases hlt : i < ds.length
  · rw [List.drop_eq_getElem_cons hlt] at w'
    obtain ⟨hgo, hy⟩ := it.go G' H' d' i ds[i] A'.gm A'.sub A'.st (List.getElem?_eq_getElem hlt)
    refine .inr ⟨hgo, fun H2 => ∃ G2 d2 acc accD, Aft C.S G1 H1 G2 H2 d2 ∧ G2 p = none ∧ H2 p = some (.dK acc) ∧ RepK K mg C.S G2 acc accD ∧ Wp (dcGo (wipeE env vs) t n mk mv (ds.drop (i + 1)) accD d2) _, fun H2 q => ⟨ds.length - (i + 1), by omega, rfl, hlt, q⟩, fun v H2 yv => ?_⟩
    obtain ⟨G2, A2, rv⟩ := hy v H2 yv
    cases he1 : t (wipeE env vs) ds[i] with
    | none => simp only [dcGo, he1] at w'; exact w'.elim
    | some e1 =>
      simp only [dcGo, he1] at w'
      have I2 : IM K mg C os (wipeE env vs) (L2.wipe σ vs) H2 G2 d' := ((I.later (A1.trans (A'.trans A2))).wipe vs)
      refine sg G2 (L2.wipe σ vs) H2 (wipeE env vs) d' v _ e1 _ I2 rv he1 fun σ3 I3 l3 k3 => ⟨wipe_eq l3 hv k3, ?_⟩
      rw [Wp_bind] at w'
      have g2p : G2 p = none := A2.gn p (by rw [hpp]; exact fun z => nomatch z) gp
      have h2p : H2 p = some (.dK acc) := A2.hp p _ hpp psub
      refine st G2 σ3 H2 e1 d' _ I3 (w'.imp fun b d3 w3 H3 G3 A3 => ?_)
      have g3p : G3 p = none := A3.gn p (by rw [h2p]; exact fun z => nomatch z) g2p
      have h3p : H3 p = some (.dK acc) := A3.hp p _ h2p psub
      cases b with
      | true =>
        rw [if_pos rfl] at w3 ⊢
        rw [Wp_bind] at w3
        refine sk G3 σ3 H3 e1 d3 _ (I3.later A3) (w3.imp fun y d4 w4 u H4 G4 A4 r4 => ?_)
        rw [Wp_bind] at w4
        refine se G4 σ3 H4 e1 d4 _ (I3.later (A3.trans A4)) (w4.imp fun z d5 w5 u5 H5 G5 A5 r5 => ?_)
        cases hk : keyD y with
        | none => simp only [hk] at w5; exact w5.elim
        | some kk =>
          simp only [hk] at w5
          rw [Wp_guard] at w5
          have g5p : G5 p = none := A5.gn p (by rw [A4.hp p _ h3p psub]; exact fun z => nomatch z) (A4.gn p (by rw [h3p]; exact fun z => nomatch z) g3p)
          have h5p : H5 p = some (.dK acc) := A5.hp p _ (A4.hp p _ h3p psub) psub
          have A25 := A2.trans (A3.trans (A4.trans A5))
          have A15 := A'.trans A25
          refine ⟨acc, kk, key_rep (RepT.of (H := H4) r4) hk, h5p, by rw [ra.length]; exact of_decide_eq_true w5.1, G5, d5, putK acc kk u5, putD accD kk z, ?_, g5p, upd_same, (ra.mono' A25.gm).put kk r5, w5.2⟩
          exact {
            hp := fun b o e n => by
              have z : b ≠ p := fun z => by rw [z, hp] at e; cases e
              rw [upd_ne z]
              exact A15.hp b o e n
            gm := A15.gm
            gn := A15.gn
            st := A15.st.alt psub
            sub := fun b o e => by
              have z : b ≠ p := fun z => by rw [z, g5p] at e; cases e
              rw [upd_ne z]
              exact A15.sub b o e }
      | false =>
        rw [if_neg Bool.false_ne_true] at w3 ⊢
        exact ⟨G3, d3, acc, accD, A'.trans (A2.trans A3), g3p, h3p, ra.mono' (A2.trans A3).gm, w3⟩
  · have e : i = ds.length := by omega
    subst e
    rw [List.drop_length] at w'
    refine .inl ⟨it.stop G' H' d' A'.gm A'.sub A'.st, ?_⟩
    have w2 := w'
    exact w2 _ _ _ (A1.trans A') (.dic (A1.free hp) gp hpp ra)
section
variable {X : Cx} {os : List Nat} {tg iter kx vx : Expr} {ifs : List Expr} {scope : Scope} {mi : Ev → M (List D)} {tv : List Nat} {t : Ev → D → Option Ev} {n : Ev → M Bool} {mk mv : Ev → M D} {wi : TI} {g : TG} {tt : TT} {tk te : TE} {pos : Pos}
theorem pmf_dc (own : List (Str × Nat)) (hc : X.calm = true) (hN : X.N.Nodup) (hi : PMI X os tg iter wi mi) (ok : BlkOk X.N X.env.scope scope own) (hv : ∀ j ∈ tv, j ∈ own.map (·.2))
    (hg : ∀ (s : Shared) (H : Hp) (C : Addr) (cl : List (Str × Addr)) (fp : List Addr), PMG (X.blk s H scope (compEnvC scope cl C X.env) fp) os tv tg g t)
    (ht : ∀ (s : Shared) (H : Hp) (C : Addr) (cl : List (Str × Addr)) (fp : List Addr), PMTs (X.blk s H scope (compEnvC scope cl C X.env) fp) os ifs tt n)
    (hk : ∀ (s : Shared) (H : Hp) (C : Addr) (cl : List (Str × Addr)) (fp : List Addr), PM (X.blk s H scope (compEnvC scope cl C X.env) fp) os kx tk mk)
    (he : ∀ (s : Shared) (H : Hp) (C : Addr) (cl : List (Str × Addr)) (fp : List Addr), PM (X.blk s H scope (compEnvC scope cl C X.env) fp) os vx te mv) (hs : ∀ x, foldedSetIterable iter X.env x = pure x := by intro _; rfl) :
    PMF X os (.DictComp kx vx [⟨tg, iter, ifs, 0⟩] scope pos) (tDc wi g tt tk te (own.map (·.2))) (eDc mi (own.map (·.2)) t n mk mv) :=
  ⟨pe_dc hc hN hi.p ok (fun s H C cl fp => (hg s H C cl fp).p) (fun s H C cl fp => (ht s H C cl fp).p) (fun s H C cl fp => (hk s H C cl fp).p) (fun s H C cl fp => (he s H C cl fp).p) hs,
    fun C => simF_dc (hi.s C) ((hg X.s_0 X.H_0 0 [] []).s C) ((ht X.s_0 X.H_0 0 [] []).s C) ((hk X.s_0 X.H_0 0 [] []).s C) ((he X.s_0 X.H_0 0 [] []).s C) hv⟩
end
end Mir
end
section
set_option Elab.async false
set_option linter.all false
set_option maxRecDepth 100000
set_option maxHeartbeats 1000000
/-! Mir, part L: what a def's proof is handed: names of the top, defs called. -/
namespace Mir
open PySem PySem.Spec PyProof.Rows L2
/-- a name of the top that stands for data -/
def GD (K : PySem.W.Frag) (mg : Str → Option Value) (x : Str) (d : D) : Prop := ∃ v u, mg x = some u ∧ RelV v u ∧ ∀ S G, Rep K mg S G v d
def tGl (K : PySem.W.Frag) (mg : Str → Option Value) (x : Str) (d : D) : TE := fun _ H Q => ∀ v u, mg x = some u → RelV v u → (∀ S G, Rep K mg S G v d) → Q v H
/-- a def of the top, as text -/
def Df (K : PySem.W.Frag) (mg : Str → Option Value) (x : Str) (st : Stmt) : Prop := ∃ f fd, Fun K x x st f fd ∧ mg x = some (.ref f)
/-- a def of the top, as what it does -/
def Has (P : Program) (w : World) (K : PySem.W.Frag) (mg : Str → Option Value) (base : Heap) (k : Nat) (x : Str) (n : Nat) (m : List D → M D) : Prop :=
  ∃ f fd ps, FnOk P w K mg base CX0 k f fd ps (spM K mg n m) ∧ mg x = some (.ref f) ∧ PySem.W.keepIn K (.ref f) = true ∧ Binds K fd ps []
/-- .. that hands back a new list or dict -/
def HasN (P : Program) (w : World) (K : PySem.W.Frag) (mg : Str → Option Value) (base : Heap) (k : Nat) (x : Str) (n : Nat) (m : List D → M D) : Prop :=
  ∃ f fd ps, FnOk P w K mg base CX0 k f fd ps (spN K mg n m) ∧ mg x = some (.ref f) ∧ PySem.W.keepIn K (.ref f) = true ∧ Binds K fd ps []
theorem Has.mono {P : Program} {w : World} {K : PySem.W.Frag} {mg : Str → Option Value} {base : Heap} {j k : Nat} {x : Str} {n : Nat} {m : List D → M D} (h : Has P w K mg base j x n m) (l : j ≤ k) : Has P w K mg base k x n m := by
  obtain ⟨f, fd, ps, F, r⟩ := h
  exact ⟨f, fd, ps, F.mono l, r⟩
theorem HasN.mono {P : Program} {w : World} {K : PySem.W.Frag} {mg : Str → Option Value} {base : Heap} {j k : Nat} {x : Str} {n : Nat} {m : List D → M D} (h : HasN P w K mg base j x n m) (l : j ≤ k) : HasN P w K mg base k x n m := by
  obtain ⟨f, fd, ps, F, r⟩ := h
  exact ⟨f, fd, ps, F.mono l, r⟩
/-- the built-ins' names are not the top's -/
def bltNames : List Str := ["abs", "all", "dict", "enumerate", "int", "isinstance", "len", "list", "max", "min", "range", "repr", "sum", "tuple", "zip", "bool", "str"]
def Blt (mg : Str → Option Value) : Prop := ∀ x ∈ bltNames, mg x = none
section
variable {X : Cx} {os : List Nat} {e a b c : Expr} {es : List Expr} {te ta tb tc : TE} {tas : TA} {m ma mb mc : Ev → M D} {ms : Ev → M (List D)} {p pos p' pT pT2 pU : Pos} {k n : Nat} {x y : Str} {mf : List D → M D} {d : D}
theorem pm_gl (h : GD X.K X.mg x d) (hg : Gl X x) (hd : (x == ("__debug__" : Str)) = false := by decide) : PM X os (.Name x pos) (tGl X.K X.mg x d) (eC d) := by
  obtain ⟨v, u, hm, r, hr⟩ := h
  refine ⟨⟨fun pins s σ H Q I hw => ?_⟩, fun C G σ H env dw Q I w => ?_⟩
  · exact (pe_glob hg hm r hd).run pins s σ H Q I (hw v u hm r hr)
  · exact fun v' u' hm' r' hr' => w v' H G (Aft.refl I.st I.sub) (hr' _ _)
theorem pm_f (h : Has X.prog X.w X.K X.mg X.base k x n mf) (hr : Room k X.A) (hg : Gl X x) (ha : PMA X os (e :: es) tas ms)
    (hdb : (x == ("__debug__" : Str)) = false := by decide) (he : starEach (e :: es) X.env = (false, eval e X.env) :: starEach es X.env := by rfl) (hpl : (backTo pos (starEach es X.env)).any (·.1) = false := by rfl) :
    PM X os (.Call (.Name x p) (e :: es) [] pos) (tCall (spM X.K X.mg n mf) [] E0 tas) (eCall n mf ms) := by
  obtain ⟨f, fd, ps, F, hm, hk, hb⟩ := h
  exact pm_call F hr hg hm hk hb ha hdb he hpl
theorem pmf_f (h : HasN X.prog X.w X.K X.mg X.base k x n mf) (hr : Room k X.A) (hg : Gl X x) (ha : PMA X os (e :: es) tas ms)
    (hdb : (x == ("__debug__" : Str)) = false := by decide) (he : starEach (e :: es) X.env = (false, eval e X.env) :: starEach es X.env := by rfl) (hpl : (backTo pos (starEach es X.env)).any (·.1) = false := by rfl) :
    PMF X os (.Call (.Name x p) (e :: es) [] pos) (tCall (spN X.K X.mg n mf) [] E0 tas) (eCall n mf ms) := by
  obtain ⟨f, fd, ps, F, hm, hk, hb⟩ := h
  exact pmf_call F hr hg hm hk hb ha hdb he hpl
/-- isinstance(x, T), isinstance(x, (T, T2)) -/
theorem pm_isT {T : Str} {t : String} (g : D → Bool) (hk : ∀ x z, tyN x = some z → kitB z t = some (g x)) (B : Blt X.mg) (hg : Gl X "isinstance") (gT : Gl X T) (iT : T ∈ bltNames) (hT : bootBuiltins T = some (.type t)) (ha : PMB X os a ta ma)
    (hn : T ≠ "__name__" := by decide) (hd : (T == ("__debug__" : Str)) = false := by decide)
    (he : starEach [a, .Name T pT] X.env = (false, eval a X.env) :: starEach [.Name T pT] X.env := by rfl) (he2 : starEach [.Name T pT] X.env = (false, eval (.Name T pT) X.env) :: starEach [] X.env := by rfl) (hpl : (backTo pos (starEach [.Name T pT] X.env)).any (·.1) = false := by rfl) :
    PM X os (.Call (.Name "isinstance" p') [a, .Name T pT] [] pos) (tCB (rIsi X.K) (tCons ta (tCons (tC (.ty t)) tNil))) (eUn (dIsi g) ma) :=
  pm_isi g hk hg (B _ (by decide)) gT (B _ iT) hT ha hn hd he he2 hpl
end
/-- a comprehension's block, looked at -/
def blkB (N : List Str) (sc scope : Scope) (own : List (Str × Nat)) : Bool :=
  decide (scope.kind = .function) && decide (∀ y ∈ scope.names, scope.names.lookup y.1 = some y.2) && decide (∀ p ∈ own, N[p.2]? = some p.1) &&
  decide (∀ y ∈ scope.names, y.2 = .free → sc.names.lookup y.1 = some .cell ∨ sc.names.lookup y.1 = some .free) && decide (∀ y ∈ scope.names, y.2 = .local ∨ y.2 = .cell → y.1 ∈ own.map (·.1) ∨ y.1 ∉ N)
theorem blk_of {N : List Str} {sc scope : Scope} {own : List (Str × Nat)} (h : blkB N sc scope own = true) : BlkOk N sc scope own := by
  unfold blkB at h
  simp only [Bool.and_eq_true, decide_eq_true_eq] at h
  exact ⟨h.1.1.1.1, h.1.1.1.2, h.1.1.2, h.1.2, h.2⟩
section
variable {P : Program} {w : World} {K : PySem.W.Frag} {mg : Str → Option Value} {base : Heap}
theorem has_of {x : Str} {st : Stmt} {N ps : List Str} {k n : Nat} {os o2 ol : List Nat} {body : Ev → M Ctl} (F : Df K mg x st) (S : FnScope N ps (defScope st)) (hn : ps.length = n)
    (hb : ∀ (kV doc pm : Value) (an : Option Addr) (cdv ct : Value) (us : List Value), us.length = ps.length → bindArgs (PySem.W.fnOf x x (defArgs st) (defBody st) (defScope st) .none kV doc pm an cdv ct) ⟨us, []⟩ = pure (ps.zip us)) (ho : ∀ i ∈ os, n ≤ i)
    (hbody : ∀ (f : Addr) (cdv : Value) (A : Around) (outer : List Env) (s : Shared) (H : Hp) (E : XK), Room k (A.deeper (envOfC x (defScope st) s.heap.objs.size f cdv)) →
      PMSs (cxOf CX0 P w K mg base N x (defScope st) f cdv A outer s H E).nox false os o2 ol (defBody st) body) : Has P w K mg base (k + 1) x n (defM N.length body) := by
  obtain ⟨f, fd, F, hm⟩ := F
  exact ⟨f, fd, ps, ok_defM F S hn ho fun cdv A outer s H E hr => hbody f cdv A outer s H E hr, hm, F.kp, F.binds hb⟩
theorem hasN_of {x : Str} {st : Stmt} {N ps : List Str} {k n : Nat} {os o2 ol : List Nat} {body : Ev → M Ctl} (F : Df K mg x st) (S : FnScope N ps (defScope st)) (hn : ps.length = n)
    (hb : ∀ (kV doc pm : Value) (an : Option Addr) (cdv ct : Value) (us : List Value), us.length = ps.length → bindArgs (PySem.W.fnOf x x (defArgs st) (defBody st) (defScope st) .none kV doc pm an cdv ct) ⟨us, []⟩ = pure (ps.zip us)) (ho : ∀ i ∈ os, n ≤ i)
    (hnx : ∀ env d e d', body env d ≠ .ok (.nx e) d')
    (hbody : ∀ (f : Addr) (cdv : Value) (A : Around) (outer : List Env) (s : Shared) (H : Hp) (E : XK), Room k (A.deeper (envOfC x (defScope st) s.heap.objs.size f cdv)) →
      PMSs (cxOf CX0 P w K mg base N x (defScope st) f cdv A outer s H E).nox true os o2 ol (defBody st) body) : HasN P w K mg base (k + 1) x n (defM N.length body) := by
  obtain ⟨f, fd, F, hm⟩ := F
  exact ⟨f, fd, ps, ok_defN F S hn ho hnx fun cdv A outer s H E hr => hbody f cdv A outer s H E hr, hm, F.kp, F.binds hb⟩
end
end Mir
end
section
set_option Elab.async false
set_option linter.all false
set_option maxRecDepth 100000
set_option maxHeartbeats 1000000
/-! Mir, part M: methods and fields handed in; try; three names at once; list(d.items()); count; clear. -/
namespace Mir
open PySem PySem.Spec PyProof.Rows L2
def HasM (P : Program) (w : World) (K : PySem.W.Frag) (mg : Str → Option Value) (base : Heap) (k : Nat) (c mt : Str) (n : Nat) (m : List D → M D) : Prop :=
  ∃ Cc f fd ps, mg c = some (.ref Cc) ∧ Cls K Cc ∧ Meth K Cc mt f ∧ FnOk P w K mg base CX0 k f fd ps (spM K mg n m) ∧ Binds K fd ps []
def HasF (K : PySem.W.Frag) (mg : Str → Option Value) (c fl : Str) : Prop := ∃ Cc, mg c = some (.ref Cc) ∧ Cls K Cc ∧ NoAttr K Cc fl
/-- a method of a class of the top, as text -/
def DfM (K : PySem.W.Frag) (mg : Str → Option Value) (c mt qual : Str) (st : Stmt) : Prop := ∃ Cc f fd, mg c = some (.ref Cc) ∧ Cls K Cc ∧ Meth K Cc mt f ∧ Fun K mt qual st f fd
theorem hasM_of {P : Program} {w : World} {K : PySem.W.Frag} {mg : Str → Option Value} {base : Heap} {c mt qual : Str} {st : Stmt} {N ps : List Str} {k n : Nat} {os o2 ol : List Nat} {body : Ev → M Ctl} (F : DfM K mg c mt qual st) (S : FnScope N ps (defScope st)) (hn : ps.length = n)
    (hb : ∀ (kV doc pm : Value) (an : Option Addr) (cdv ct : Value) (us : List Value), us.length = ps.length → bindArgs (PySem.W.fnOf mt qual (defArgs st) (defBody st) (defScope st) .none kV doc pm an cdv ct) ⟨us, []⟩ = pure (ps.zip us)) (ho : ∀ i ∈ os, n ≤ i)
    (hbody : ∀ (f : Addr) (cdv : Value) (A : Around) (outer : List Env) (s : Shared) (H : Hp) (E : XK), Room k (A.deeper (envOfC qual (defScope st) s.heap.objs.size f cdv)) →
      PMSs (cxOf CX0 P w K mg base N qual (defScope st) f cdv A outer s H E).nox false os o2 ol (defBody st) body) : HasM P w K mg base (k + 1) c mt n (defM N.length body) := by
  obtain ⟨Cc, f, fd, hC, hc, hm, F⟩ := F
  exact ⟨Cc, f, fd, ps, hC, hc, hm, ok_defM F S hn ho fun cdv A outer s H E hr => hbody f cdv A outer s H E hr, F.binds hb⟩
section
variable {X : Cx} {fr : Bool} {os os' ol : List Nat} {e o a b c : Expr} {es : List Expr} {te to ta tb tc : TE} {tas : TA} {m mo ma mb mc : Ev → M D} {ms : Ev → M (List D)} {p pos p' apos cpos : Pos} {k n : Nat} {x y z cn mt fl : Str} {mf : List D → M D} {d : D} {f1 f2 f3 : Bool}
theorem pm_field (h : HasF X.K X.mg cn fl) (ho : PM X os o to mo) (hb : attributeBase o fl X.env (eval o X.env) = eval o X.env := by rfl) : PM X os (.Attribute o fl pos) (tFld X.K to fl) (eFld cn fl mo) := by
  obtain ⟨Cc, hC, hc, hn⟩ := h
  exact pm_fld ho hC hc hn hb
/-- o.m() of an object; the reading that no place of a def stands in -/
def tMeth0 (K : PySem.W.Frag) (mg : Str → Option Value) (c mt : Str) (n : Nat) (mf : List D → M D) (to : TE) : TE := fun σ H Q => ∀ Cc, mg c = some (.ref Cc) → tMeth Cc mt (spM K mg n mf) [] E0 to tNil σ H Q
theorem pm_m0 {pl : Sem Bool} (h : HasM X.prog X.w X.K X.mg X.base k cn mt n mf) (hr : Room k X.A) (ho : PM X os o to mo)
    (ht : eval (.Call (.Attribute o mt apos) [] [] pos) X.env = (do
      let ov ← eval o X.env
      standAt apos.atName
      let (f, first) ← holding [ov] (getMethod ov mt pl)
      callWith pos f first (backTo pos (starEach [] X.env)) (backToKw pos (keywordEach [] X.env))) := by rfl) :
    PM X os (.Call (.Attribute o mt apos) [] [] pos) (tMeth0 X.K X.mg cn mt n mf to) (eMeth cn mt n mf mo aNil) := by
  obtain ⟨Cc, f, fd, ps, hC, hc, hm, F, hb⟩ := h
  have q := pm_meth0 (os := os) (pl := pl) (apos := apos) (pos := pos) hC ho hc hm F hr hb ht
  exact ⟨⟨fun pins s σ H Q I w => q.p.run pins s σ H Q I (w Cc hC)⟩, fun C G σ H env d Q I w C' hC' => by
    rw [hC] at hC'
    cases hC'
    exact q.s C G σ H env d Q I w⟩
/-- try: .. where nothing is raised -/
theorem pms_try {body : List Stmt} {h₀ : ExceptHandler} {hs : List ExceptHandler} {mb : Ev → M Ctl} (hn : ∀ e s, ¬ X.xe e s) (hb : PMSs X fr os os' ol body mb) : PMS X fr os os' ol (.Try body (h₀ :: hs) [] [] pos) mb := by
  obtain ⟨ts, p, s⟩ := hb
  exact ⟨_, ps_try_never hn p pss_nil, fun C G σ H env d D I w => s C G σ H env d D I w⟩
/-! ### x, y, z = a, b, c -/
def cPar3 (i j l : Nat) (ma mb mc : Ev → M D) : Ev → M Ctl := fun env => ma env >>= fun x => mb env >>= fun y => mc env >>= fun z => pure (.nx (((env.set i (some x)).set j (some y)).set l (some z)))
theorem pms_par3 (i j l : Nat) {px py pz pt : Pos} {kt k2 pt2} (hc : X.calm = true) (hN : X.N.Nodup) (hi : X.N[i]? = some x) (hj : X.N[j]? = some y) (hl : X.N[l]? = some z) (hij : i ≠ j) (hil : i ≠ l) (hjl : j ≠ l)
    (hx : X.env.scope.names.lookup x = some .local) (hy : X.env.scope.names.lookup y = some .local) (hz : X.env.scope.names.lookup z = some .local)
    (ha : PMX f1 X os a ta ma) (hb : PMX f2 X os b tb mb) (hcc : PMX f3 X os c tc mc) (o1 : if f1 = true then i ∈ os else i ∉ os) (o2 : if f2 = true then j ∈ os else j ∉ os) (o3 : if f3 = true then l ∈ os else l ∉ os)
    (hw : swappedStores [.Tuple [.Name x px, .Name y py, .Name z pz] kt pt] (.Tuple [a, b, c] k2 pt2) X.env = pure (some [x, y, z])) (hs : swapsWithSole [.Tuple [.Name x px, .Name y py, .Name z pz] kt pt] (.Tuple [a, b, c] k2 pt2) pos.line X.env = pure false := by rfl)
    (he : starEach [a, b, c] X.env = (false, eval a X.env) :: starEach [b, c] X.env := by rfl) (he2 : starEach [b, c] X.env = (false, eval b X.env) :: starEach [c] X.env := by rfl) (he3 : starEach [c] X.env = (false, eval c X.env) :: starEach [] X.env := by rfl) :
    PMS X fr os os ol (.Assign [.Tuple [.Name x px, .Name y py, .Name z pz] kt pt] (.Tuple [a, b, c] k2 pt2) pos) (cPar3 i j l ma mb mc) := by
  refine ⟨_, ps_par3 hc hN hi hj hl hij hil hjl hx hy hz (pa_cons ha.p (pa_cons hb.p (pa_cons hcc.p pa_nil he3) he2) he) hw hs, fun C G σ H env d D I w => ?_⟩
  unfold cPar3 at w
  rw [Wp_bind] at w
  refine ha.s C G σ H env d _ I (w.imp fun x d1 w1 v1 H1 G1 A1 r1 => ?_)
  rw [Wp_bind] at w1
  refine hb.s C G1 σ H1 env d1 _ (I.later A1) (w1.imp fun y d2 w2 v2 H2 G2 A2 r2 => ?_)
  rw [Wp_bind] at w2
  refine hcc.s C G2 σ H2 env d2 _ (I.later (A1.trans A2)) (w2.imp fun z d3 w3 v3 H3 G3 A3 r3 => ⟨v1, v2, v3, rfl, ?_⟩)
  have A := A1.trans (A2.trans A3)
  have I3 := I.later A
  have h0 : ∀ b, H b = none → C.H b = none := fun b hb => I.aft.free hb
  have set_at : ∀ {l1 : List (Option V)} {q : Nat} {v : V} {r : V}, (l1.set q (some v))[q]? = some (some r) → r = v := fun {l1 q v r} e => by
    rw [List.getElem?_set] at e
    split at e
    · split at e
      · cases e; rfl
      · cases e
    · rename_i h; exact absurd rfl h
  have n2 : ∀ {q}, v2 = .ref q → f2 = true → H1 q = none := fun {q} eq hf => by
    subst hf
    exact (RepN.addr r2 eq).1
  have n3 : ∀ {q}, v3 = .ref q → f3 = true → H2 q = none := fun {q} eq hf => by
    subst hf
    exact (RepN.addr r3 eq).1
  have t1 : ∀ {q}, v1 = .ref q → f1 = true → H1 q ≠ none := fun {q} eq hf => by
    subst hf
    exact (RepN.addr r1 eq).2
  have t2 : ∀ {q}, v2 = .ref q → f2 = true → H2 q ≠ none := fun {q} eq hf => by
    subst hf
    exact (RepN.addr r2 eq).2
  have ow1 : i ∈ os → f1 = true := fun h => by
    cases f1 with
    | true => rfl
    | false => rw [if_neg Bool.false_ne_true] at o1; exact absurd h o1
  have ow2 : j ∈ os → f2 = true := fun h => by
    cases f2 with
    | true => rfl
    | false => rw [if_neg Bool.false_ne_true] at o2; exact absurd h o2
  have J1 := I3.set_x (i := i) I.st h0 o1 ((r1.later I.st A2).later I.st A3) fun hf q eq u y hu _ he => by
    subst hf
    have n1 := (RepN.addr r1 eq).1
    exact I.apart n1 hu he
  have J2 := J1.set_x (i := j) I.st h0 o2 (RepX.pull A1 (r2.later A1.st A3)) fun hf q eq u y hu huj he => by
    have nq := n2 eq hf
    by_cases zl : u = i
    · subst zl
      intro zq
      have := set_at zq
      exact t1 this.symm (ow1 hu) nq
    · rw [get_set_ne zl] at he ⊢
      exact I.apart (A1.free nq) hu he
  refine w3 _ H3 G3 A.gm (J2.set_x (i := l) I.st h0 o3 (RepX.pull A1 (RepX.pull A2 r3)) fun hf q eq u y hu hul he => ?_)
  have nq := n3 eq hf
  by_cases zj : u = j
  · subst zj
    intro zq
    have := set_at zq
    exact t2 this.symm (ow2 hu) nq
  · rw [get_set_ne zj] at he ⊢
    by_cases zi : u = i
    · subst zi
      intro zq
      have := set_at zq
      exact t1 this.symm (ow1 hu) (A2.free nq)
    · rw [get_set_ne zi] at he ⊢
      exact I.apart (A1.free (A2.free nq)) hu he
/-! ### xs.count(y), flat things -/
def rCnt (K : PySem.W.Frag) : V → List V → Hp → VK → Prop := fun x xs H Q => ∃ (q : Addr) (ws : List V) (v : V), x = .ref q ∧ xs = [v] ∧ SqL K H q ws ∧ flatV v = true ∧ ws.all flatV = true ∧ Q (.int (ws.countP fun y => eqV y v : Nat)) H
theorem cnt_eqU {x : V} : ∀ {xs : List V} {us : List Value}, Vals xs us → xs.all flatV = true → us.countP (eqU x) = xs.countP fun y => eqV y x
  | _, _, .nil, _ => rfl
  | y :: xs, u :: us, .cons r t, f => by
    rw [List.all_cons, Bool.and_eq_true] at f
    rw [List.countP_cons, List.countP_cons, eqU_of r f.1, cnt_eqU t f.2]
theorem mt_cnt : MtR X "list.count" (rCnt X.K) := fun pins s σ H x xs v us Q I rx rxs h => by
  obtain ⟨q, ws, y, ex, exs, hs, fy, fw, k⟩ := h
  subst ex
  subst exs
  cases rx
  obtain ⟨u, eu, ru⟩ := rxs.one
  subst eu
  obtain ⟨its, rv, ⟨⟨cls, dd, data, sl⟩, n, ho, hcl, hdn, hd⟩, hlen⟩ := I.list hs
  simp only at hcl hd
  subst hcl
  subst hd
  refine call_meets PySem.F.slot_list_count ⟨_, ho, rfl⟩ PySem.F.entry_list_count (PySem.F.args_list_count_2 _ _)
    (SeqAt.list_countAt q its.toArray n dd sl u (eqU y)) ⟨ho, fun w hw => mem_eqAt ru fy rv fw w (by simpa using hw), ?_⟩
  have ec : its.toArray.toList.countP (eqU y) = ws.countP fun z => eqV z y := cnt_eqU rv fw
  refine ⟨.int (ws.countP fun z => eqV z y : Nat), H, I.tok _, ⟨s.toks, ?_⟩, k⟩
  show Value.int ((its.toArray.toList.countP (eqU y) : Nat) : Int) s.toks = Value.int ((ws.countP (fun z => eqV z y) : Nat) : Int) s.toks
  rw [ec]
def dCount (x y : D) : M D := match x with
  | .lst xs => guardB (flatD y && xs.all flatD) (pure (.int ((xs.countP fun z => eqV (valD z) (valD y)) : Nat)))
  | _ => bad
theorem pm_count (ho : PMB X os o to mo) (he : PMB X os e te m) (hbase : attributeBase o "count" X.env (eval o X.env) = eval o X.env := by rfl)
    (hfew : ((backTo cpos (starEach [e] X.env)).all (fun x => !x.1) && (backToKw cpos (keywordEach [] X.env)).all (fun x => x.1.isSome)
      && decide ([e].length + ([] : List Keyword).length + (if ([] : List Keyword).isEmpty then 0 else 1) < 30)) = true := by rfl)
    (hline : (apos.endLine == cpos.line) = true := by rfl) (hs : starEach [e] X.env = (false, eval e X.env) :: starEach [] X.env := by rfl) (hplain : (backTo cpos (starEach [] X.env)).any (·.1) = false := by rfl) :
    PM X os (.Call (.Attribute o "count" apos) [e] [] cpos) (tBM X.K "list" (rCnt X.K) to (tCons te tNil)) (eBin dCount mo m) := by
  refine ⟨pe_bm PySem.F.plainAttrs_list PySem.F.slot_list_count PySem.F.type_list_count mt_cnt ho.p (pa_cons he.p pa_nil hs) hbase hfew hline hs hplain, fun C G σ H env d Q I w => ?_⟩
  unfold eBin at w
  rw [Wp_bind] at w
  refine ho.s C G σ H env d _ I (w.imp fun x d1 w1 v1 H1 G1 A1 r1 => ?_)
  rw [Wp_bind] at w1
  cases hx : x with
  | lst xs =>
    rw [hx] at r1
    obtain ⟨a, vs, e1, h1, rr, n1⟩ := r1.lst' A1.sub
    subst e1
    refine ⟨.inl ⟨rfl, vs, .inl (.inl h1)⟩, ?_⟩
    refine he.s C G1 σ H1 env d1 _ (I.later A1) (w1.imp fun y d2 w2 v2 H2 G2 A2 r2 => ?_)
    rw [hx] at w2
    have w2 : Wp (guardB (flatD y && xs.all flatD) (pure (D.int ((xs.countP fun z => eqV (valD z) (valD y)) : Nat)) : M D) d2) _ := w2
    rw [Wp_guard, Bool.and_eq_true] at w2
    have q : v2 = valD y ∧ flatV v2 = true := by
      cases r2 with
      | of r => exact flat_rep r w2.1.1
      | lst => cases w2.1.1
      | dic => cases w2.1.1
    obtain ⟨q3, q4⟩ := flats_rep rr w2.1.2
    refine ⟨_, vs, v2, rfl, rfl, .inl (.inl (A2.hp _ _ h1 n1)), q.2, q4, ?_⟩
    have kk := w2.2 _ _ _ (A1.trans A2) (.int _)
    rw [q3, q.1, List.countP_map]
    exact kk
  | _ =>
    exfalso
    rw [hx] at w1
    cases q : m env d1 with
    | bad => rw [q] at w1; exact w1.elim
    | ok y d2 => rw [q] at w1; exact w1.elim
/-! ### d.clear(), one's own -/
def cClr (i : Nat) : Ev → M Ctl := fun env => match env[i]? with
  | some (some (.dic _)) => pure (.nx (env.set i (some (.dic []))))
  | _ => bad
theorem pms_clr (i : Nat) {p2 : Pos} (hi : i ∈ os := by decide) (hN : X.N[i]? = some x := by rfl) (hv : Vis X.env.scope x := by first | exact Or.inl rfl | exact Or.inr (Or.inl rfl) | exact Or.inr (Or.inr rfl)) (hd : (x == ("__debug__" : Str)) = false := by decide)
    (hcd : (x == ("__classdict__" : Str)) = false := by decide) (hbase : attributeBase (.Name x p2) "clear" X.env (eval (.Name x p2) X.env) = eval (.Name x p2) X.env := by rfl) (hline : (apos.endLine == cpos.line) = true := by rfl)
    (hs : swapsWith (.Call (.Attribute (.Name x p2) "clear" apos) [] [] cpos) none pos.line X.env = pure false := by rfl) :
    PMS X fr os os ol (.Expr (.Call (.Attribute (.Name x p2) "clear" apos) [] [] cpos) pos) (cClr i) := by
  refine ⟨_, ps_expr (pe_dclear (pe_var hN hv hd hcd) hbase hline) hs, fun C G σ H env d D I w => ?_⟩
  cases ee : env[i]? with
  | none => simp only [cClr, ee] at w; exact w.elim
  | some q =>
    cases q with
    | none => simp only [cClr, ee] at w; exact w.elim
    | some y =>
      cases y with
      | dic xs =>
        simp only [cClr, ee] at w
        obtain ⟨a, e2, oa⟩ := I.owA hi ee (fun z => nomatch z)
        obtain ⟨vs, h1, h2⟩ := oa.o
        exact ⟨_, e2, .inr (.inr (.inl ⟨rfl, .inl ⟨vs, h1⟩⟩)), a, vs, rfl, rfl, h1, w σ _ G (Le.refl G) (I.mut hi ee e2 oa ⟨[], upd_same, .nil⟩)⟩
      | _ => simp only [cClr, ee] at w; exact w.elim
end
end Mir
end
section
set_option Elab.async false
set_option linter.all false
set_option maxRecDepth 100000
set_option maxHeartbeats 1000000
/-! Mir, part S: the drawing state read and written. -/
namespace Mir
open PySem PySem.Spec PyProof.Rows L2
section
variable {K : PySem.W.Frag} {mg : Str → Option Value} {C : Ct} {os : List Nat} {env : Ev} {σ : St} {G H H' : Hp} {d d' : Drw} {v : V} {x : D} {i : Nat}
theorem Aft.state {S : SA} (st : StR S H d) (sub : Sub S G H) (k : ∀ b, ¬ inS S b → H' b = H b) (st' : StR S H' d') : Aft S G H G H' d' where
  hp := fun b o e n => (k b n).trans e
  gm := Le.refl G
  gn := fun b _ g => g
  st := st'
  sub := fun b o e => ⟨(k b (sub b o e).2).trans (sub b o e).1, (sub b o e).2⟩
theorem st_dg (S : SA) (d : Drw) : valV (stK S d) (.inr "digits" : Key) = some (.int d.dg) := by kernel_rfl
theorem st_tn (S : SA) (d : Drw) : valV (stK S d) (.inr "turn" : Key) = some (.int d.tn) := by kernel_rfl
theorem st_gr (S : SA) (d : Drw) : valV (stK S d) (.inr "great" : Key) = some (.ref S.g) := by kernel_rfl
theorem st_ce (S : SA) (d : Drw) : valV (stK S d) (.inr "cells" : Key) = some (.ref S.c) := by kernel_rfl
theorem put_dg (S : SA) (d : Drw) (n : Int) : putK (stK S d) (.inr "digits" : Key) (.int n) = stK S { d with dg := n } := by kernel_rfl
theorem put_tn (S : SA) (d : Drw) (n : Int) : putK (stK S d) (.inr "turn" : Key) (.int n) = stK S { d with tn := n } := by kernel_rfl
theorem StR.dg {S : SA} (st : StR S H d) (n : Int) : StR S (upd H S.s (.dK (stK S { d with dg := n }))) { d with dg := n } :=
  ⟨upd_same, by rw [upd_ne (ne_of st.g st.s (fun z => nomatch z))]; exact st.g, by rw [upd_ne (ne_of st.c st.s (fun z => nomatch z))]; exact st.c, st.gc, fun b vs e => ⟨by rw [upd_ne (st.l b vs e).2.1]; exact (st.l b vs e).1, (st.l b vs e).2⟩⟩
theorem StR.tn {S : SA} (st : StR S H d) (n : Int) : StR S (upd H S.s (.dK (stK S { d with tn := n }))) { d with tn := n } :=
  ⟨upd_same, by rw [upd_ne (ne_of st.g st.s (fun z => nomatch z))]; exact st.g, by rw [upd_ne (ne_of st.c st.s (fun z => nomatch z))]; exact st.c, st.gc, fun b vs e => ⟨by rw [upd_ne (st.l b vs e).2.1]; exact (st.l b vs e).1, (st.l b vs e).2⟩⟩
theorem StR.gr {S : SA} (st : StR S H d) (gs : List Int) : StR S (upd H S.g (.lst (gs.map V.int))) { d with gr := gs } :=
  ⟨by rw [upd_ne (ne_of st.s st.g (fun z => nomatch z))]; exact st.s, upd_same, by rw [upd_ne (Ne.symm st.gc)]; exact st.c, st.gc, fun b vs e => ⟨by rw [upd_ne (st.l b vs e).2.2.1]; exact (st.l b vs e).1, (st.l b vs e).2⟩⟩
theorem IM.state (I : IM K mg C os env σ H G d) (A : Aft C.S G H G H' d') : IM K mg C os env σ H' G d' := I.later A
end
/-- the state in slot i -/
def isSt (env : Ev) (i : Nat) : Bool := match env[i]? with
  | some (some .st) => true
  | _ => false
theorem isSt_of {env : Ev} {i : Nat} (h : isSt env i = true) : env[i]? = some (some .st) := by
  unfold isSt at h
  split at h
  · assumption
  · cases h
def rdM {α : Type} (f : Drw → α) : M α := fun d => .ok (f d) d
theorem Wp_rd {α : Type} {f : Drw → α} {d : Drw} {P : α → Drw → Prop} : Wp (rdM f d) P ↔ P (f d) d := Iff.rfl
def wrM (f : Drw → Drw) : M Unit := fun d => .ok () (f d)
theorem Wp_wr {f : Drw → Drw} {d : Drw} {P : Unit → Drw → Prop} : Wp (wrM f d) P ↔ P () (f d) := Iff.rfl
def eSt (i : Nat) (f : Drw → D) : Ev → M D := fun env => guardB (isSt env i) (rdM f)
section
variable {X : Cx} {fr : Bool} {os os' ol : List Nat} {e o a b c : Expr} {es : List Expr} {te to ta tb tc : TE} {tas : TA} {m mo ma mb mc : Ev → M D} {ms : Ev → M (List D)} {p pos p' p2 p3 p4 apos cpos : Pos} {k n j : Nat} {x y z : Str}
theorem IM.stAt {C : Ct} {env : Ev} {σ : St} {G H : Hp} {d : Drw} {i : Nat} (I : IM X.K X.mg C os env σ H G d) (ho : i ∉ os) (h : isSt env i = true) : σ[i]? = some (some (.ref C.S.s)) := by
  obtain ⟨v, e1, r⟩ := I.sh i _ ho (isSt_of h)
  cases r
  exact e1
/-- state['digits'], state['turn'] -/
theorem pm_stI (i : Nat) (nm : Str) (f : Drw → Int) (hf : ∀ S d, valV (stK S d) (.inr nm : Key) = some (.int (f d))) (hr : Room k X.A) (ho : i ∉ os := by decide) (hN : X.N[i]? = some x := by rfl) (hv : Vis X.env.scope x := by first | exact Or.inl rfl | exact Or.inr (Or.inl rfl) | exact Or.inr (Or.inr rfl)) (hd : (x == ("__debug__" : Str)) = false := by decide)
    (hcd : (x == ("__classdict__" : Str)) = false := by decide) : PM X os (.Subscript (.Name x p) (.Constant (.str nm) j p2) pos) (tDGet (tVar i) (tC (.str nm))) (eSt i fun d => .int (f d)) := by
  refine ⟨pe_dget (hu_of hr) (pe_var hN hv hd hcd) pe_str (fun _ _ => rfl), fun C G σ H env d Q I w => ?_⟩
  unfold eSt at w
  rw [Wp_guard] at w
  refine ⟨_, I.stAt ho w.1, _, _, rfl, .inl ⟨stK C.S d, .inr nm, .inl I.st.s, rfl, (hf _ _).symm⟩, ?_⟩
  exact w.2 _ _ _ (Aft.refl I.st I.sub) (.int _)
/-- state['great'] != [] .. -/
theorem eqv_nil : ∀ xs : List Int, PyData.eqv (.list (xs.map PyData.int)) (.list []) = decide (xs = [])
  | [] => by decide
  | x :: r => by
    rw [decide_eq_false (fun z => nomatch z)]
    rfl
theorem dp_ints {K : PySem.W.Frag} {H : Hp} : ∀ xs : List Int, DpAll K H (xs.map V.int) (xs.map PyData.int)
  | [] => .nil
  | x :: r => .cons (.int x) (dp_ints r)
theorem lay_ints : ∀ xs : List Int, PyData.canLayAll0 (xs.map PyData.int) = true
  | [] => by simp [PyData.canLayAll0]
  | x :: r => by simp [PyData.canLayAll0, PyData.canLay0, lay_ints r]
theorem depth_ints : ∀ xs : List Int, PyData.depthAll (xs.map PyData.int) = 0
  | [] => by simp [PyData.depthAll]
  | x :: r => by simp [PyData.depthAll, PyData.depth, depth_ints r]
theorem shaped_ints (xs : List Int) : SeqAt.shaped (.list (xs.map PyData.int)) = true := by
  unfold SeqAt.shaped
  rw [Bool.and_eq_true]
  exact ⟨by simp [PyData.canLay0, lay_ints], by simp [PyData.depth, depth_ints]⟩
/-- state['great'] != [], state['cells'] != [] -/
theorem pm_stNe (i : Nat) (nm : Str) (f : Drw → List Int) (ad : SA → Addr) (hf : ∀ S d, valV (stK S d) (.inr nm : Key) = some (.ref (ad S))) (hl : ∀ S H d, StR S H d → H (ad S) = some (.lst ((f d).map V.int))) (hr : Room k X.A) (ho : i ∉ os := by decide) (hN : X.N[i]? = some x := by rfl) (hv : Vis X.env.scope x := by first | exact Or.inl rfl | exact Or.inr (Or.inl rfl) | exact Or.inr (Or.inr rfl)) (hd : (x == ("__debug__" : Str)) = false := by decide)
    (hcd : (x == ("__classdict__" : Str)) = false := by decide) : PMC X os (.Compare (.Subscript (.Name x p) (.Constant (.str nm) j p2) p3) [.NotEq] [.List [] p4] pos) (tOp (rNeD X.K) (tDGet (tVar i) (tC (.str nm))) (tLst tNil)) (eSt i fun d => .bl (!decide (f d = []))) := by
  refine pmc_of (pc_op (op_neD (by have := hr.un; omega)) (pe_dget (hu_of hr) (pe_var hN hv hd hcd) pe_str (fun _ _ => rfl)) (pe_lst pa_nil)) (nomark _) fun C G σ H env d Q I w => ?_
  unfold eSt at w
  rw [Wp_guard, Wp_rd] at w
  refine ⟨_, I.stAt ho w.1, _, _, rfl, .inl ⟨stK C.S d, .inr nm, .inl I.st.s, rfl, (hf _ _).symm⟩, ?_⟩
  refine ⟨Nat.zero_le _, fun q hq => ?_⟩
  have A : Aft C.S G H G (upd H q (.lst [])) d := Aft.newF I.st I.sub hq
  refine ⟨_, _, .lst (.inl (.inl (hl _ _ _ A.st))) (dp_ints _), .lst (.inl (.inl upd_same)) .nil, shaped_ints _, by decide, ?_⟩
  rw [eqv_nil]
  exact w.2 _ _ _ A (.bl _)
/-- state['cells'][e] -/
def eStCe (i : Nat) (m : Ev → M D) : Ev → M D := fun env => guardB (isSt env i) (m env >>= fun y => match y with
  | .int j => rdM (fun d => atI d.ce j) >>= fun c => (match c with
    | some c => pure (.int c)
    | none => bad)
  | _ => bad)
theorem atI_int {cs : List Int} {j c : Int} (h : atI cs j = some c) : atI (cs.map V.int) j = some (.int c) := by
  unfold atI at h ⊢
  rw [List.length_map]
  cases q : ixN cs.length j with
  | none => rw [q] at h; cases h
  | some n =>
    rw [q] at h
    have h : cs[n]? = some c := h
    show (cs.map V.int)[n]? = some (V.int c)
    rw [List.getElem?_map, h]
    rfl
theorem pm_stCe (i : Nat) (hr : Room k X.A) (hb : PMB X os b tb mb) (ho : i ∉ os := by decide) (hN : X.N[i]? = some x := by rfl) (hv : Vis X.env.scope x := by first | exact Or.inl rfl | exact Or.inr (Or.inl rfl) | exact Or.inr (Or.inr rfl)) (hd : (x == ("__debug__" : Str)) = false := by decide)
    (hcd : (x == ("__classdict__" : Str)) = false := by decide) (hs : PlainIx b := by exact fun _ _ => rfl) : PM X os (.Subscript (.Subscript (.Name x p) (.Constant (.str "cells") j p2) p3) b pos) (tOp (rIxL X.K) (tDGet (tVar i) (tC (.str "cells"))) tb) (eStCe i mb) := by
  refine ⟨pe_ix ix_list (pe_dget (hu_of hr) (pe_var hN hv hd hcd) pe_str (fun _ _ => rfl)) hb.p hs, fun C G σ H env d Q I w => ?_⟩
  unfold eStCe at w
  rw [Wp_guard, Wp_bind] at w
  refine ⟨_, I.stAt ho w.1, _, _, rfl, .inl ⟨stK C.S d, .inr "cells", .inl I.st.s, rfl, (st_ce _ _).symm⟩, ?_⟩
  refine hb.s C G σ H env d _ I (w.2.imp fun y d1 w1 v1 H1 G1 A1 r1 => ?_)
  split at w1
  · rename_i j
    rw [Wp_bind, Wp_rd] at w1
    cases hc : atI d1.ce j with
    | none => simp only [hc] at w1; exact w1.elim
    | some c =>
      simp only [hc] at w1
      exact ⟨_, _, _, _, rfl, r1.int, .inl (.inl A1.st.c), atI_int hc, w1 _ _ _ A1 (.int _)⟩
  · exact w1.elim
/-- len(state['cells']) -/
theorem pm_stLen (i : Nat) (hr : Room k X.A) (hg : Gl X "len") (hm : X.mg "len" = none) (ho : i ∉ os := by decide) (hN : X.N[i]? = some x := by rfl) (hv : Vis X.env.scope x := by first | exact Or.inl rfl | exact Or.inr (Or.inl rfl) | exact Or.inr (Or.inr rfl)) (hd : (x == ("__debug__" : Str)) = false := by decide)
    (hcd : (x == ("__classdict__" : Str)) = false := by decide) (he : starEach [.Subscript (.Name x p) (.Constant (.str "cells") j p2) p3] X.env = (false, eval (.Subscript (.Name x p) (.Constant (.str "cells") j p2) p3) X.env) :: starEach [] X.env := by rfl) (hpl : (backTo pos (starEach [] X.env)).any (·.1) = false := by rfl) :
    PM X os (.Call (.Name "len" p') [.Subscript (.Name x p) (.Constant (.str "cells") j p2) p3] [] pos) (tCB (rLen X.K) (tCons (tDGet (tVar i) (tC (.str "cells"))) tNil)) (eSt i fun d => .int d.ce.length) := by
  refine ⟨pe_callB (callr_or call_len call_lenR) hg hm boot_len (pa_cons (pe_dget (hu_of hr) (pe_var hN hv hd hcd) pe_str (fun _ _ => rfl)) pa_nil he) (by decide) (by decide) he hpl, fun C G σ H env d Q I w => ?_⟩
  unfold eSt at w
  rw [Wp_guard, Wp_rd] at w
  refine ⟨_, I.stAt ho w.1, _, _, rfl, .inl ⟨stK C.S d, .inr "cells", .inl I.st.s, rfl, (st_ce _ _).symm⟩, ?_⟩
  refine .inl ⟨_, d.ce.length, rfl, .inl ⟨d.ce.map V.int, .inl (.inl I.st.c), by rw [List.length_map]⟩, ?_⟩
  exact w.2 _ _ _ (Aft.refl I.st I.sub) (.int _)
theorem four_small : (4 : Nat) < sizeLine := by decide
/-- state['digits'] = e -/
def cStDg (i : Nat) (m : Ev → M D) : Ev → M Ctl := fun env => m env >>= fun y => match y with
  | .int n => guardB (isSt env i) (wrM (fun d => { d with dg := n }) >>= fun _ => pure (.nx env))
  | _ => bad
theorem pms_stDg (i : Nat) (hr : Room k X.A) (h : PM X os e te m) (ho : i ∉ os := by decide) (hN : X.N[i]? = some x := by rfl) (hv : Vis X.env.scope x := by first | exact Or.inl rfl | exact Or.inr (Or.inl rfl) | exact Or.inr (Or.inr rfl)) (hd : (x == ("__debug__" : Str)) = false := by decide)
    (hcd : (x == ("__classdict__" : Str)) = false := by decide) (hs : swapsWith e (some (.Subscript (.Name x p) (.Constant (.str "digits") j p2) p3)) pos.line X.env = pure false := by rfl) :
    PMS X fr os os ol (.Assign [.Subscript (.Name x p) (.Constant (.str "digits") j p2) p3] e pos) (cStDg i m) := by
  refine ⟨_, ps_dput (hu_of hr) (pe_var hN hv hd hcd) pe_str h.p hs, fun C G σ H env d D I w => ?_⟩
  unfold cStDg at w
  rw [Wp_bind] at w
  refine h.s C G σ H env d _ I (w.imp fun y d1 w1 v1 H1 G1 A1 r1 => ?_)
  split at w1
  · rename_i n
    rw [Wp_guard, Wp_bind, Wp_wr] at w1
    have I1 := I.later A1
    have ev : v1 = .int n := by cases r1; rfl
    subst ev
    refine ⟨_, I1.stAt ho w1.1, _, _, rfl, .inl ⟨stK C.S d1, .inr "digits", A1.st.s, rfl, four_small, rfl⟩, ?_⟩
    rw [put_dg]
    refine w1.2 σ _ G1 A1.gm (I1.later (Aft.state A1.st A1.sub (fun b n => upd_ne fun z => n (.inl z)) (A1.st.dg n)))
  · exact w1.elim
/-- state['digits'] = state['great'].pop(0) -/
def cStPop (i : Nat) : Ev → M Ctl := fun env => guardB (isSt env i) (rdM (fun d => d.gr) >>= fun gs => match gs with
  | g :: r => wrM (fun d => { d with dg := g, gr := r }) >>= fun _ => pure (.nx env)
  | [] => bad)
theorem pms_stPop (i : Nat) {q1 q2 q4 : Pos} {j2 j3 : Nat} (hr : Room k X.A) (ho : i ∉ os := by decide) (hN : X.N[i]? = some x := by rfl) (hv : Vis X.env.scope x := by first | exact Or.inl rfl | exact Or.inr (Or.inl rfl) | exact Or.inr (Or.inr rfl)) (hd : (x == ("__debug__" : Str)) = false := by decide)
    (hcd : (x == ("__classdict__" : Str)) = false := by decide) (hs : swapsWith (.Call (.Attribute (.Subscript (.Name x p) (.Constant (.str "great") j2 q1) q2) "pop" apos) [.Constant (.int 0) j3 q4] [] cpos) (some (.Subscript (.Name x p4) (.Constant (.str "digits") j p2) p3)) pos.line X.env = pure false := by rfl)
    (hbase : attributeBase (.Subscript (.Name x p) (.Constant (.str "great") j2 q1) q2) "pop" X.env (eval (.Subscript (.Name x p) (.Constant (.str "great") j2 q1) q2) X.env) = eval (.Subscript (.Name x p) (.Constant (.str "great") j2 q1) q2) X.env := by rfl)
    (hfew : ((backTo cpos (starEach [.Constant (.int 0) j3 q4] X.env)).all (fun x => !x.1) && (backToKw cpos (keywordEach [] X.env)).all (fun x => x.1.isSome)
      && decide ([Expr.Constant (.int 0) j3 q4].length + ([] : List Keyword).length + (if ([] : List Keyword).isEmpty then 0 else 1) < 30)) = true := by rfl)
    (hline : (apos.endLine == cpos.line) = true := by rfl) (hst : starEach [.Constant (.int 0) j3 q4] X.env = (false, eval (.Constant (.int 0) j3 q4) X.env) :: starEach [] X.env := by rfl) (hplain : (backTo cpos (starEach [] X.env)).any (·.1) = false := by rfl) :
    PMS X fr os os ol (.Assign [.Subscript (.Name x p4) (.Constant (.str "digits") j p2) p3] (.Call (.Attribute (.Subscript (.Name x p) (.Constant (.str "great") j2 q1) q2) "pop" apos) [.Constant (.int 0) j3 q4] [] cpos) pos) (cStPop i) := by
  refine ⟨_, ps_dput (hu_of hr) (pe_var hN hv hd hcd) pe_str (pe_bm PySem.F.plainAttrs_list PySem.F.slot_list_pop PySem.F.type_list_pop mt_popAt (pe_dget (hu_of hr) (pe_var hN hv hd hcd) pe_str (fun _ _ => rfl)) (pa_cons pe_int pa_nil hst) hbase hfew hline hst hplain) hs, fun C G σ H env d D I w => ?_⟩
  unfold cStPop at w
  rw [Wp_guard, Wp_bind, Wp_rd] at w
  have ex := I.stAt ho w.1
  refine ⟨_, ex, _, _, rfl, .inl ⟨stK C.S d, .inr "great", .inl I.st.s, rfl, (st_gr _ _).symm⟩, ?_⟩
  cases hg : d.gr with
  | nil =>
    have w2 := w.2
    rw [hg] at w2
    exact w2.elim
  | cons g r =>
    have w2 := w.2
    rw [hg] at w2
    have hG := I.st.g
    refine ⟨.inl ⟨rfl, _, .inl (.inl hG)⟩, C.S.g, d.gr.map V.int, 0, 0, .int g, rfl, rfl, hG, by decide, by decide, by rw [hg, List.length_map, List.length_cons]; unfold seqIndex?; simp, by rw [hg]; rfl, ?_⟩
    have e1 : (d.gr.map V.int).eraseIdx 0 = r.map V.int := by rw [hg]; rfl
    rw [e1]
    have st1 := I.st.gr r
    have st2 := st1.dg g
    refine ⟨_, ex, _, _, rfl, .inl ⟨_, .inr "digits", st1.s, rfl, four_small, rfl⟩, ?_⟩
    rw [put_dg]
    refine w2 σ _ G (Le.refl G) (I.later (Aft.state I.st I.sub (fun b n => ?_) st2))
    rw [upd_ne fun z => n (.inl z), upd_ne fun z => n (.inr (.inl z))]
/-- state['turn'] += 1 -/
def cStTn (i : Nat) : Ev → M Ctl := fun env => guardB (isSt env i) (wrM (fun d => { d with tn := d.tn + 1 }) >>= fun _ => pure (.nx env))
theorem pms_stTn (i : Nat) {j3 : Nat} {q4 : Pos} (hr : Room k X.A) (ho : i ∉ os := by decide) (hN : X.N[i]? = some x := by rfl) (hv : Vis X.env.scope x := by first | exact Or.inl rfl | exact Or.inr (Or.inl rfl) | exact Or.inr (Or.inr rfl)) (hd : (x == ("__debug__" : Str)) = false := by decide)
    (hcd : (x == ("__classdict__" : Str)) = false := by decide) (ha : ∀ ov iv new, augStore (.Constant (.str "turn") j p2) ov iv new = (do holding [new, ov, iv] (setItem ov iv new); release [new, ov, iv] []; pure .next) := by intro _ _ _; rfl) :
    PMS X fr os os ol (.AugAssign (.Subscript (.Name x p) (.Constant (.str "turn") j p2) p3) .Add (.Constant (.int 1) j3 q4) pos) (cStTn i) := by
  refine ⟨_, ps_daug (hu_of hr) (pe_var (i := i) hN hv hd hcd) pe_str pe_int in_add ha, fun C G σ H env d D I w => ?_⟩
  unfold cStTn at w
  rw [Wp_guard, Wp_bind, Wp_wr] at w
  refine ⟨_, I.stAt ho w.1, _, _, rfl, .inl ⟨stK C.S d, .inr "turn", .inl I.st.s, rfl, (st_tn _ _).symm⟩, ?_⟩
  refine ⟨_, _, rfl, rfl, _, .inl ⟨stK C.S d, .inr "turn", I.st.s, rfl, four_small, rfl⟩, ?_⟩
  rw [put_tn]
  exact w.2 σ _ G (Le.refl G) (I.later (Aft.state I.st I.sub (fun b n => upd_ne fun z => n (.inl z)) (I.st.tn _)))
end
end Mir
end
section
set_option Elab.async false
set_option linter.all false
set_option maxRecDepth 100000
set_option maxHeartbeats 1000000
/-! Mir, part R: defs within which repr is called: no repr is under way around them. -/
namespace Mir
open PySem PySem.Spec PyProof.Rows L2
/-- FnOk where no repr is under way -/
structure FnG (P : Program) (w : World) (K : PySem.W.Frag) (mg : Str → Option Value) (base : Heap) (k : Nat) (f : Addr) (fd : FuncData) (ps : List Str) (sp : Sp) : Prop where
  len : ∀ vs H Q E, sp vs H Q E → vs.length = ps.length
  run : ∀ (A : Around) (outer : List Env) (s : Shared) (H : Hp) (args : Args) (us : List Value) (vs : List V) (Q : VK) (E : XK), Room k A → A.guards = some [] → Env0 P w K mg base A outer s H → BindsTo s fd args (ps.zip us) → Vals vs us → sp vs H Q E →
    codeAny (model P w) A (.call (.ref f) args) (CR CX0 outer P w H s Q E) s
section
variable {P : Program} {w : World} {K : PySem.W.Frag} {mg : Str → Option Value} {base : Heap}
theorem FnG.of {k : Nat} {f : Addr} {fd : FuncData} {ps : List Str} {sp : Sp} (F : FnOk P w K mg base CX0 k f fd ps sp) : FnG P w K mg base k f fd ps sp := ⟨F.len, fun A outer s H args us vs Q E hr _ => F.run A outer s H args us vs Q E hr⟩
theorem fnG_of {k : Nat} {f : Addr} {name qual : Str} {params : Arguments} {body : List Stmt} {scope : Scope} {dV kV doc pm cdv ct oc : Value} {an od : Option Addr} {osl : Array (Option Value)} {N ps : List Str} {sp : Sp}
    (lk : K.lookup f = some ⟨oc, od, .func (PySem.W.fnOf name qual params body scope dV kV doc pm an cdv ct), osl⟩) (hcd : PySem.W.codeIn K cdv qual = true) (S : FnScope N ps scope) (len : ∀ vs H Q E, sp vs H Q E → vs.length = ps.length)
    (hbody : ∀ (A : Around) (outer : List Env) (s : Shared) (H : Hp) (vs : List V) (Q : VK) (E : XK), Room k (A.deeper (envOfC qual scope s.heap.objs.size f cdv)) → (A.deeper (envOfC qual scope s.heap.objs.size f cdv)).guards = some [] → sp vs H Q E →
      ∃ t, PSs (cxOf CX0 P w K mg base N qual scope f cdv A outer s H E) body t ∧ t { nx := fun _ H' => Q .non H', rt := Q } (start N vs) H) :
    FnG P w K mg base (k + 1) f (PySem.W.fnOf name qual params body scope dV kV doc pm an cdv ct) ps sp where
  len := len
  run := fun A outer s H args us vs Q E hr hgd ev hb r hsp => by
    have hlen := len _ _ _ _ hsp
    have KX : K.In s.heap := ev.mod.kin.keeps fun b o e => (ev.bs b o e).1
    have nl : s.heap.NoLimit := ev.mod.nolimit.keeps fun b o e => (ev.bs b o e).1
    have kinds : ∀ y ∈ ps.zip us, scope.names.lookup y.1 = some .local ∨ (scope.names.lookup y.1 = some .cell ∧ ((cellsFrom (s.heap.objs.size + 1) scope.names []).lookup y.1).isSome = true) := by
      intro ⟨n, v⟩ hy
      rcases S.par n (List.of_mem_zip hy).1 with q | q
      · exact .inl q
      · exact .inr ⟨q, PySem.W.cellsFrom_some _ _ _ (.inl q)⟩
    refine codeAny_call_function hr.depth (KX _ _ lk) rfl S.co S.gen rfl (PySem.W.codeRec_of KX hcd) (hb _ _ _ _ (wpAny_newFunctionEnv_cells S.kind kinds fun env he s1 x => ?_))
    subst he
    refine ⟨nl.keeps x.toInCall.keep, codeAny_func ?_⟩
    obtain ⟨t, ht, hq⟩ := hbody A outer s H vs Q E (hr.deeper _) hgd hsp
    have J := inv_start (CX := CX0) (base := base) (E := E) S hr.hd ev hlen r x
    refine wpAny_mono (ht.run [] s1 (start N vs) H _ J hq) (fun fl s' hs => ?_) fun e s' hs => hs
    cases fl with
    | ret u =>
      obtain ⟨v, σ', H', J, rv, q⟩ := hs
      exact ⟨v, H', J.os, J.bare, J.base, J.hok, rv, q⟩
    | next =>
      obtain ⟨σ', H', J, q⟩ := hs
      exact ⟨.non, H', J.os, J.bare, J.base, J.hok, rfl, q⟩
    | brk =>
      obtain ⟨_, _, _, q⟩ := hs
      exact q.elim
    | cont =>
      obtain ⟨_, _, _, q⟩ := hs
      exact q.elim
end
section
variable {X : Cx} {k : Nat} {f : Addr} {fd : FuncData} {ps : List Str} {ds : List Value} {dvs : List V} {sp : Sp} {E : XK}
theorem run_fnG {pins : List (Addr × Obj)} {σ : St} {H : Hp} {s : Shared} {Q : VK} {us : List Value} {vs : List V} (F : FnG X.prog X.w X.K X.mg X.base k f fd ps sp) (hr : Room k X.A) (hgd : X.A.guards = some []) (hb : Binds X.K fd ps ds) (hd : Vals dvs ds) (hx : Passes CX0 X E)
    (I : Inv X pins σ H s) (r : Vals vs us) (h : sp (vs ++ dvs) H Q E) : wpAny (model X.prog X.w) X.A (call (.ref f) us) (EP X pins σ Q) X.xe s := by
  have rr : Vals (vs ++ dvs) (us ++ ds) := r.append hd
  refine wpAny_call (codeAny_mono (F.run X.A X.stack s H ⟨us, []⟩ _ _ Q E hr hgd I.env0 (hb s us I.kIn (by rw [← rr.length]; exact F.len _ _ _ _ h)) rr h) fun r s' q => ?_)
  cases r with
  | error e => exact hx pins σ H s e s' I q
  | ok fl =>
    cases fl with
    | ret u => exact I.after q
    | _ => exact False.elim q
theorem pe_callGd {x : Str} {p pos : Pos} {e : Expr} {es : List Expr} {t : TA} (F : FnG X.prog X.w X.K X.mg X.base k f fd ps sp) (hr : Room k X.A) (hgd : X.A.guards = some []) (hg : Gl X x) (hm : X.mg x = some (.ref f)) (hk : PySem.W.keepIn X.K (.ref f) = true) (hb : Binds X.K fd ps ds) (hd : Vals dvs ds) (hx : Passes CX0 X E)
    (ha : PA X (e :: es) t) (hdb : (x == ("__debug__" : Str)) = false := by decide) (he : starEach (e :: es) X.env = (false, eval e X.env) :: starEach es X.env := by rfl) (hpl : (backTo pos (starEach es X.env)).any (·.1) = false := by rfl) :
    PE X (.Call (.Name x p) (e :: es) [] pos) (tCall sp dvs E t) :=
  ⟨fun pins s σ H Q I h => wpAny_Call_Name_kw (ld_glob I hg hm (PySem.W.callWith_K (h₀ := X.base) I.ok.mod.kin hk (thn (ha.run pos pins s σ H _ I h) fun us s1 ⟨vs, H1, I1, r, q⟩ => ⟨I1.kIn, run_fnG F hr hgd hb hd hx I1 r q⟩) he hpl) hdb)⟩
end
/-! ### such defs, mirrored -/
def HasG (P : Program) (w : World) (K : PySem.W.Frag) (mg : Str → Option Value) (base : Heap) (k : Nat) (x : Str) (n : Nat) (m : List D → M D) : Prop :=
  ∃ f fd ps, FnG P w K mg base k f fd ps (spM K mg n m) ∧ mg x = some (.ref f) ∧ PySem.W.keepIn K (.ref f) = true ∧ Binds K fd ps []
theorem pm_fG {X : Cx} {os : List Nat} {k n : Nat} {x : Str} {p pos : Pos} {e : Expr} {es : List Expr} {tas : TA} {ms : Ev → M (List D)} {mf : List D → M D} (h : HasG X.prog X.w X.K X.mg X.base k x n mf) (hr : Room k X.A) (hgd : X.A.guards = some []) (hg : Gl X x) (ha : PMA X os (e :: es) tas ms)
    (hdb : (x == ("__debug__" : Str)) = false := by decide) (he : starEach (e :: es) X.env = (false, eval e X.env) :: starEach es X.env := by rfl) (hpl : (backTo pos (starEach es X.env)).any (·.1) = false := by rfl) :
    PM X os (.Call (.Name x p) (e :: es) [] pos) (tCall (spM X.K X.mg n mf) [] E0 tas) (eCall n mf ms) := by
  obtain ⟨f, fd, ps, F, hm, hk, hb⟩ := h
  exact ⟨pe_callGd F hr hgd hg hm hk hb .nil pass0 ha.p hdb he hpl, fun C => simE_call _ (ha.s C)⟩
theorem hasG_of {P : Program} {w : World} {K : PySem.W.Frag} {mg : Str → Option Value} {base : Heap} {x : Str} {st : Stmt} {N ps : List Str} {k n : Nat} {os o2 ol : List Nat} {body : Ev → M Ctl} (F : Df K mg x st) (S : FnScope N ps (defScope st)) (hn : ps.length = n)
    (hb : ∀ (kV doc pm : Value) (an : Option Addr) (cdv ct : Value) (us : List Value), us.length = ps.length → bindArgs (PySem.W.fnOf x x (defArgs st) (defBody st) (defScope st) .none kV doc pm an cdv ct) ⟨us, []⟩ = pure (ps.zip us)) (ho : ∀ i ∈ os, n ≤ i)
    (hbody : ∀ (f : Addr) (cdv : Value) (A : Around) (outer : List Env) (s : Shared) (H : Hp) (E : XK), Room k (A.deeper (envOfC x (defScope st) s.heap.objs.size f cdv)) → (A.deeper (envOfC x (defScope st) s.heap.objs.size f cdv)).guards = some [] →
      PMSs (cxOf CX0 P w K mg base N x (defScope st) f cdv A outer s H E).nox false os o2 ol (defBody st) body) : HasG P w K mg base (k + 1) x n (defM N.length body) := by
  obtain ⟨f, fd, F, hm⟩ := F
  have hB := F.binds hb
  obtain ⟨oc, od, kV, doc, pm, an, cdv, ct, osl, efd, lk, hcd⟩ := F.ex
  subst efd
  refine ⟨f, _, ps, fnG_of lk hcd S (fun vs H Q E h => h.1.trans hn.symm) fun A outer s H vs Q E hr hgd h => ?_, hm, F.kp, hB⟩
  obtain ⟨hl, Sa, G, ds, d, st', sub, r, w⟩ := h
  obtain ⟨ts, p, sm⟩ := hbody f cdv A outer s H E hr hgd
  refine ⟨ts, p.nox, sm ⟨Sa, G, H⟩ G (start N vs) H _ d _ (IM.start (C := ⟨Sa, G, H⟩) st' sub r fun i hi => by rw [← r.length, hl]; exact ho i hi) ?_⟩
  unfold defM at w
  rw [Wp_bind] at w
  exact w.imp fun c d1 k1 => by
    cases c with
    | nx e => exact fun σ' H' G' _ I' => k1 .non H' G' I'.aft .non
    | ret x => exact fun v H' G' A' r' => k1 v H' G' A' r'
    | brk e => exact k1.elim
    | cont e => exact k1.elim
end Mir
end
section
set_option Elab.async false
set_option linter.all false
set_option maxRecDepth 100000
set_option maxHeartbeats 1000000
/-! Mir, part P: repr of data. -/
namespace Mir
open PySem PySem.Spec PyProof.Rows L2
def keyPy : Key → PyData
  | .inl i => .int i
  | .inr x => .str x
mutual
/-- what repr sees -/
def shP : D → Option PyData
  | .non => some .none
  | .bl b => some (.bool b)
  | .int i => some (.int i)
  | .str x => some (.str x)
  | .lst xs => (shPs xs).map .list
  | .ro xs => (shPs xs).map .list
  | .tup xs => (shPs xs).map .tuple
  | .dic kvs => (shPk kvs).map .dict
  | .obj _ _ => none
  | .st => none
  | .ln _ => none
  | .plt _ => none
def shPs : List D → Option (List PyData)
  | [] => some []
  | x :: xs => match shP x, shPs xs with
    | some p, some ps => some (p :: ps)
    | _, _ => none
def shPk : List (Key × D) → Option (List (PyData × PyData))
  | [] => some []
  | (k, x) :: xs => match shP x, shPk xs with
    | some p, some ps => some ((keyPy k, p) :: ps)
    | _, _ => none
end
mutual
/-- no list within -/
def noL : D → Bool
  | .lst _ => false
  | .ro _ => false
  | .tup xs => noLs xs
  | .dic kvs => noLk kvs
  | _ => true
def noLs : List D → Bool
  | [] => true
  | x :: xs => noL x && noLs xs
def noLk : List (Key × D) → Bool
  | [] => true
  | (_, x) :: xs => noL x && noLk xs
end
section
variable {X : Cx} {pins : List (Addr × Obj)} {σ : St} {H : Hp} {s : Shared} {S : SA} {G : Hp} {mg : Str → Option Value}
/-- the entries' keys and values, read -/
theorem keys_read {vs : List (Key × Value)} : ∀ {es : List DictEntry} {ds : List (Key × D)} {ps : List (PyData × PyData)} {kvs : List (Key × V)}, Pairs (mixKind X.prog X.w) es vs → KV kvs vs → RepK X.K mg S G kvs ds → shPk ds = some ps → ReadsAll s.heap (es.map (·.key)) (ps.map (·.1)) [] := by
  induction vs with
  | nil =>
    intro es ds ps kvs hp kv r e
    cases hp
    cases kv
    cases r
    cases e
    exact .nil
  | cons q vs ih =>
    intro es ds ps kvs hp kv r e
    cases hp with
    | @cons en _ es' _ h1 h2 h3 =>
      cases kv with
      | cons a b =>
        cases r with
        | @cons k v vs' d ds' ra rb =>
          rw [shPk] at e
          split at e
          · rename_i p ps' e1 e2
            cases e
            have rest := ih h3 b rb e2
            have ek : k = q.1 := a.1
            have hk : keyIs k en.key = true := by rw [ek]; exact h1
            have : Reads s.heap en.key (keyPy k) [] := by
              rcases keyIs_shape hk with ⟨i, t, e1, e2⟩ | ⟨x, t, e1, e2⟩
              · rw [e1, e2]; exact .int i t
              · rw [e1, e2]; exact .str x t
            exact .cons (as := []) (bs := []) this rest
          · cases e
mutual
theorem Rep.rd (I : Inv X pins σ H s) (le : Le G H) : ∀ {v : V} {d : D} {p : PyData} {u : Value}, Rep X.K mg S G v d → shP d = some p → RelV v u → ∃ as, Reads s.heap u p as ∧ (noL d = true → sysModules ∉ as)
  | _, _, _, _, .non, e, r => by cases e; cases r; exact ⟨[], .none, fun _ z => nomatch z⟩
  | _, _, _, _, .bl b, e, r => by cases e; cases r; exact ⟨[], .bool b, fun _ z => nomatch z⟩
  | _, _, _, _, .int i, e, r => by cases e; obtain ⟨t, rfl⟩ := r; exact ⟨[], .int i t, fun _ z => nomatch z⟩
  | _, _, _, _, .str x, e, r => by cases e; obtain ⟨t, rfl⟩ := r; exact ⟨[], .str x t, fun _ z => nomatch z⟩
  | _, _, _, _, .lst h rs, e, r => by
    rw [shP] at e
    obtain ⟨ps, e1, e2⟩ := Option.map_eq_some_iff.mp e
    subst e2
    cases r
    obtain ⟨its, rv, ⟨o, m, g1, g2, _, g3⟩, _⟩ := I.list (.inl (.inl (le _ _ h)))
    obtain ⟨as, q, _⟩ := Reps.rd I le rs e1 rv
    exact ⟨_, .list g1 g2 g3 q, fun z => by rw [noL] at z; cases z⟩
  | _, _, _, _, .ro h rs, e, r => by
    rw [shP] at e
    obtain ⟨ps, e1, e2⟩ := Option.map_eq_some_iff.mp e
    subst e2
    cases r
    obtain ⟨its, rv, ⟨o, m, g1, g2, _, g3⟩, _⟩ := I.list (le.l h)
    obtain ⟨as, q, _⟩ := Reps.rd I le rs e1 rv
    exact ⟨_, .list g1 g2 g3 q, fun z => by rw [noL] at z; cases z⟩
  | _, _, _, _, .tup h rs, e, r => by
    rw [shP] at e
    obtain ⟨ps, e1, e2⟩ := Option.map_eq_some_iff.mp e
    subst e2
    cases r
    obtain ⟨its, rv, ⟨o, g1, g2, m, g3⟩, _⟩ := I.tuple (le.t h)
    obtain ⟨as, q, k⟩ := Reps.rd I le rs e1 rv
    exact ⟨_, .tuple g1 g2 g3 q, fun z => k (by rw [noL] at z; exact z)⟩
  | _, _, _, _, .dic h rs, e, r => by
    rw [shP] at e
    obtain ⟨ps, e1, e2⟩ := Option.map_eq_some_iff.mp e
    subst e2
    cases r
    obtain ⟨z, hd, vs, kv, ⟨o, es, ep, ho, hx, hdt, hko, hp, hn⟩⟩ := dk_rd I.hok (.inr ⟨_, le _ _ h⟩)
    obtain ⟨bs, q, k⟩ := RepK.rd I le rs e1 kv hp
    refine ⟨_, .dict ho hx.1 hdt (keys_read hp kv rs e1) q, fun z => ?_⟩
    rw [noL] at z
    intro hm
    rcases List.mem_cons.mp hm with hm | hm
    · rw [← hm] at hd; exact absurd hd (by decide)
    · exact k z (by simpa using hm)
  | _, _, _, _, .obj _ _ _, e, _ => by rw [shP] at e; cases e
  | _, _, _, _, .st, e, _ => by rw [shP] at e; cases e
  | _, _, _, _, .ln _ _, e, _ => by rw [shP] at e; cases e
  | _, _, _, _, .plt _ _ _, e, _ => by rw [shP] at e; cases e
theorem Reps.rd (I : Inv X pins σ H s) (le : Le G H) : ∀ {vs : List V} {ds : List D} {ps : List PyData} {us : List Value}, Reps X.K mg S G vs ds → shPs ds = some ps → Vals vs us → ∃ as, ReadsAll s.heap us ps as ∧ (noLs ds = true → sysModules ∉ as)
  | _, _, _, _, .nil, e, r => by rw [shPs] at e; cases e; cases r; exact ⟨[], .nil, fun _ z => nomatch z⟩
  | _, _, _, _, .cons a b, e, r => by
    rw [shPs] at e
    split at e
    · rename_i p ps' e1 e2
      cases e
      cases r with
      | cons r1 r2 =>
        obtain ⟨as, q, k⟩ := Rep.rd I le a e1 r1
        obtain ⟨bs, q2, k2⟩ := Reps.rd I le b e2 r2
        refine ⟨_, .cons q q2, fun z => ?_⟩
        rw [noLs, Bool.and_eq_true] at z
        exact fun hm => (List.mem_append.mp hm).elim (k z.1) (k2 z.2)
    · cases e
theorem RepK.rd (I : Inv X pins σ H s) (le : Le G H) : ∀ {kvs : List (Key × V)} {ds : List (Key × D)} {ps : List (PyData × PyData)} {vs : List (Key × Value)} {es : List DictEntry}, RepK X.K mg S G kvs ds → shPk ds = some ps → KV kvs vs → Pairs (mixKind X.prog X.w) es vs →
    ∃ as, ReadsAll s.heap (es.map (·.val)) (ps.map (·.2)) as ∧ (noLk ds = true → sysModules ∉ as)
  | _, _, _, _, _, .nil, e, kv, hp => by rw [shPk] at e; cases e; cases kv; cases hp; exact ⟨[], .nil, fun _ z => nomatch z⟩
  | _, _, _, _, _, .cons a b, e, kv, hp => by
    rw [shPk] at e
    split at e
    · rename_i p ps' e1 e2
      cases e
      cases kv with
      | @cons _ kw _ _ q1 q2 =>
        cases hp with
        | @cons en kv' es' kvs' h1 h2 h3 =>
          have ru := q1.2
          rw [← h2] at ru
          obtain ⟨as, q, k⟩ := Rep.rd I le a e1 ru
          obtain ⟨bs, r2, k2⟩ := RepK.rd I le b e2 q2 h3
          refine ⟨_, .cons q r2, fun z => ?_⟩
          rw [noLk, Bool.and_eq_true] at z
          exact fun hm => (List.mem_append.mp hm).elim (k z.1) (k2 z.2)
    · cases e
end
/-- what may be looked at, read -/
theorem RepT.rd (I : Inv X pins σ H s) (sb : Sub S G H) {v : V} {d : D} {p : PyData} {u : Value} (h : RepT X.K mg S G H v d) (e : shP d = some p) (r : RelV v u) : ∃ as, Reads s.heap u p as ∧ (noL d = true → sysModules ∉ as) := by
  cases h with
  | of h => exact Rep.rd I sb.le h e r
  | lst n h rs => exact Rep.rd (G := H) (S := S) (mg := mg) I (Le.refl H) (.lst h (rs.mono sb.le)) e r
  | dic n h rs =>
    rw [shP] at e
    obtain ⟨ps, e1, e2⟩ := Option.map_eq_some_iff.mp e
    subst e2
    cases r
    obtain ⟨z, hd, vs, kv, ⟨o, es, ep, ho, hx, hdt, hko, hp, hn⟩⟩ := dk_rd I.hok (.inl h)
    obtain ⟨bs, q, k⟩ := RepK.rd I sb.le rs e1 kv hp
    refine ⟨_, .dict ho hx.1 hdt (keys_read hp kv rs e1) q, fun z => ?_⟩
    rw [noL] at z
    intro hm
    rcases List.mem_cons.mp hm with hm | hm
    · rw [← hm] at hd; exact absurd hd (by decide)
    · exact k z (by simpa using hm)
def good1 (x : D) : Bool := match shP x with
  | some p => !p.hasDict || noL x
  | none => false
theorem good1_sys {x : D} {p : PyData} {as : List Addr} (g : good1 x = true) (e : shP x = some p) (k : noL x = true → sysModules ∉ as) : p.hasDict = true → sysModules ∉ as := fun hd => by
  unfold good1 at g
  rw [e] at g
  have g : (!p.hasDict || noL x) = true := g
  rw [hd] at g
  exact k g
theorem Reps.allK (I : Inv X pins σ H s) (le : Le G H) : ∀ {vs : List V} {ds : List D} {ps : List PyData} {us : List Value}, Reps X.K mg S G vs ds → shPs ds = some ps → ds.all good1 = true → Vals vs us → PyData.showableAll ps = true → (∀ t ∈ PyData.shownAll ps, t.length ≤ sizeLine) →
    ∃ bs, ReadAtMost s.heap (PyData.depthAll ps) bs ∧ ReprAllK X.prog X.w bs s.heap (PyData.depthAll ps) us (PyData.shownAll ps)
  | _, _, _, _, .nil, e, _, r, _, _ => by
    rw [shPs] at e
    cases e
    cases r
    exact ⟨[], fun _ z => (nomatch z), by rw [PyData.shownAll]; exact .nil⟩
  | _, _, _, _, .cons a b, e, g, r, hs, hz => by
    rw [shPs] at e
    split at e
    · rename_i p ps' e1 e2
      cases e
      cases r with
      | cons r1 r2 =>
        rw [List.all_cons, Bool.and_eq_true] at g
        rw [PyData.showableAll, Bool.and_eq_true] at hs
        obtain ⟨as, q, k⟩ := Rep.rd I le a e1 r1
        obtain ⟨b1, hb1, k1⟩ := ReprK.of_reads (prog := X.prog) (w := X.w) q hs.1 (good1_sys g.1 e1 k) (hz _ (by rw [PyData.shownAll]; exact List.mem_cons_self ..))
        obtain ⟨b2, hb2, k2⟩ := Reps.allK I le b e2 g.2 r2 hs.2 fun t ht => hz t (by rw [PyData.shownAll]; exact List.mem_cons_of_mem _ ht)
        refine ⟨b1 ++ b2, ?_, ?_⟩
        · rw [PyData.depthAll]
          exact ReadAtMost.append (hb1.mono (Nat.le_max_left _ _)) (hb2.mono (Nat.le_max_right _ _))
        · rw [PyData.depthAll, PyData.shownAll]
          exact .cons ((k1.more fun c hc => List.mem_append_left _ hc).level_le (Nat.le_max_left _ _)) (k2.more_le (fun c hc => List.mem_append_right _ hc) (Nat.le_max_right _ _))
    · cases e
def goodR (d : D) : Bool := good1 d || (match d with
  | .tup xs => xs.all good1
  | .lst xs => !xs.isEmpty && xs.all good1
  | _ => false)
def isRefD : D → Bool
  | .lst _ => true
  | .ro _ => true
  | .tup _ => true
  | .dic _ => true
  | _ => false
theorem RepT.ref {v : V} {d : D} (h : RepT X.K mg S G H v d) (e : isRefD d = true) : ∃ a, v = .ref a := by
  cases h with
  | of r => cases r <;> first | exact ⟨_, rfl⟩ | cases e
  | lst => exact ⟨_, rfl⟩
  | dic => exact ⟨_, rfl⟩
def dRepr (d : D) : M D := match shP d with
  | some p => guardB (isRefD d && goodR d && p.showable && decide (p.shown.length ≤ sizeLine) && decide (p.depth ≤ 60)) (pure (.str p.shown))
  | none => bad
theorem repr_at {d : D} {p : PyData} {v : V} {u : Value} {E : Value → Shared → Prop} {Q : Value → Shared → Prop} (hgd : X.A.guards = some []) (hu : X.A.units + 100 < cLine) (I : Inv X pins σ H s) (sb : Sub S G H) (h : RepT X.K mg S G H v d) (r : RelV v u) (e : shP d = some p)
    (h1 : isRefD d = true) (h2 : goodR d = true) (h3 : p.showable = true) (h4 : p.shown.length ≤ sizeLine) (h5 : p.depth ≤ 60)
    (k : ∀ h' t tk, (∀ b o, s.heap.get? b = some o → h'.get? b = some o) → Q (.str p.shown t) { s with heap := h', toks := tk }) : wpAny (model X.prog X.w) X.A (call (.builtin "repr") [u]) Q E s := by
  obtain ⟨a, ea⟩ := h.ref h1
  subst ea
  cases r
  obtain ⟨as, rd, ks⟩ := RepT.rd I sb h e rfl
  unfold goodR at h2
  rcases (Bool.or_eq_true _ _).mp h2 with g | g
  · exact repr_of_reads' rd h3 (good1_sys g e ks) hgd (by omega) (fun _ _ z => z) k h4
  · cases d with
    | tup xs =>
      have g : xs.all good1 = true := g
      rw [shP] at e
      obtain ⟨ps, e1, e2⟩ := Option.map_eq_some_iff.mp e
      subst e2
      cases h with
      | of h =>
        cases h with
        | tup hq rs =>
          obtain ⟨its, rv, ⟨o, g1, g2, m, g3⟩, _⟩ := I.tuple (sb.le.t hq)
          rw [PyData.shown] at h4
          obtain ⟨bs, hb, hk⟩ := Reps.allK I sb.le rs e1 g rv (by rw [PyData.showable] at h3; exact h3) fun t ht => Nat.le_trans (tupleText_mem_le ht) h4
          have rt : Reads s.heap (.ref _) (.tuple ps) as := rd
          have na := not_mem_of_deeper rt (n := PyData.depthAll ps) (by rw [PyData.depth]; omega) hb
          rw [PyData.depth] at h5
          have ku : ∀ h' t tk, (∀ b o, s.heap.get? b = some o → h'.get? b = some o) → Q (.str (tupleText (PyData.shownAll ps)) t) { s with heap := h', toks := tk } := fun h' t tk z => by
            have := k h' t tk z
            rw [PyData.shown] at this
            exact this
          exact call_repr_slot (by omega) ⟨o, g1, g2⟩ F.slot_tuple_repr (call_tuple_reprK g1 g2 g3 na hk hgd (fun b _ => Clear.nil b) (by show X.A.units + 1 + _ < cLine; omega) (fun _ _ z => z) (fun h' t tk z => ⟨_, _, rfl, ku h' t tk z⟩) h4)
    | lst xs =>
      have g : (!xs.isEmpty && xs.all good1) = true := g
      rw [Bool.and_eq_true] at g
      obtain ⟨g0, g⟩ := g
      rw [shP] at e
      obtain ⟨ps, e1, e2⟩ := Option.map_eq_some_iff.mp e
      subst e2
      obtain ⟨a', vs, ea', hq, rs, _⟩ := h.lst' sb
      cases ea'
      obtain ⟨its, rv, ⟨o, m, g1, g2, _, g3⟩, _⟩ := I.list (.inl (.inl hq))
      rw [PyData.shown] at h4
      obtain ⟨bs, hb, hk⟩ := Reps.allK I sb.le rs e1 g rv (by rw [PyData.showable] at h3; exact h3) fun t ht => Nat.le_trans (listText_mem_le ht) h4
      have rt : Reads s.heap (.ref _) (.list ps) as := rd
      have na := not_mem_of_deeper rt (n := PyData.depthAll ps) (by rw [PyData.depth]; omega) hb
      rw [PyData.depth] at h5
      have ku : ∀ h' t tk, (∀ b o, s.heap.get? b = some o → h'.get? b = some o) → Q (.str (listText (PyData.shownAll ps)) t) { s with heap := h', toks := tk } := fun h' t tk z => by
        have := k h' t tk z
        rw [PyData.shown] at this
        exact this
      cases its with
      | nil =>
        cases rv
        cases rs
        cases g0
      | cons x l =>
        exact call_repr_slot (by omega) ⟨o, g1, g2⟩ F.slot_list_repr.toG (call_list_reprK g1 g2 g3 na (by rw [hk.length_eq]; simp) (fun i y hy => hk.item i y (by simpa using hy)) hgd (fun b _ => Clear.nil b) (by show X.A.units + 1 + _ < cLine; omega) (fun _ _ z => z) (fun h' t tk z => ⟨_, _, rfl, ku h' t tk z⟩) h4)
    | _ => cases g
end
section
variable {X : Cx} {os : List Nat} {e : Expr} {te : TE} {m : Ev → M D} {k : Nat} {p' pos : Pos}
def tRepr (K : PySem.W.Frag) (mg : Str → Option Value) (te : TE) : TE := fun σ H Q => te σ H fun v H1 => ∃ S G d p, Sub S G H1 ∧ RepT K mg S G H1 v d ∧ shP d = some p ∧ isRefD d = true ∧ goodR d = true ∧ p.showable = true ∧ p.shown.length ≤ sizeLine ∧ p.depth ≤ 60 ∧ Q (.str p.shown) H1
theorem pm_repr (hr : Room k X.A) (hgd : X.A.guards = some []) (hg : Gl X "repr") (hm : X.mg "repr" = none) (ha : PMB X os e te m) (he : starEach [e] X.env = (false, eval e X.env) :: starEach [] X.env := by rfl) (hpl : (backTo pos (starEach [] X.env)).any (·.1) = false := by rfl) :
    PM X os (.Call (.Name "repr" p') [e] [] pos) (tCB (fun xs H Q => ∃ v, xs = [v] ∧ ∃ S G d p, Sub S G H ∧ RepT X.K X.mg S G H v d ∧ shP d = some p ∧ isRefD d = true ∧ goodR d = true ∧ p.showable = true ∧ p.shown.length ≤ sizeLine ∧ p.depth ≤ 60 ∧ Q (.str p.shown) H) (tCons te tNil)) (eUn dRepr m) := by
  refine ⟨pe_callB (fun pins s σ H xs us Q I r h => ?_) hg hm (show bootBuiltins "repr" = some (.builtin "repr") from by decide +kernel) (pa_cons ha.p pa_nil he) (by decide) (by decide) he hpl, fun C G σ H env d Q I w => ?_⟩
  · obtain ⟨v, ex, S, G, d, p, sb, rt, e1, h1, h2, h3, h4, h5, q⟩ := h
    subst ex
    obtain ⟨u, eu, ru⟩ := vals1 r
    subst eu
    exact repr_at hgd (by have := hr.un; omega) I sb rt ru e1 h1 h2 h3 h4 h5 fun h' t tk z => ⟨.str p.shown, H, I.kept (t' := tk) z, ⟨t, rfl⟩, q⟩
  · unfold eUn at w
    rw [Wp_bind] at w
    refine ha.s C G σ H env d _ I (w.imp fun x d1 w1 v1 H1 G1 A1 r1 => ?_)
    cases hx : shP x with
    | none => simp only [dRepr, hx] at w1; exact w1.elim
    | some p =>
      simp only [dRepr, hx] at w1
      rw [Wp_guard] at w1
      simp only [Bool.and_eq_true, decide_eq_true_eq] at w1
      obtain ⟨⟨⟨⟨⟨a1, a2⟩, a3⟩, a4⟩, a5⟩, w2⟩ := w1
      exact ⟨v1, rfl, C.S, G1, x, p, A1.sub, r1, hx, a1, a2, a3, a4, a5, w2 _ _ _ A1 (.str _)⟩
end
end Mir
end
section
set_option Elab.async false
set_option linter.all false
set_option maxRecDepth 100000
set_option maxHeartbeats 1000000
/-! Mir, part U: list(d.items()), d locked or not. -/
namespace Mir
open PySem PySem.Spec PyProof.Rows L2
def rItR : V → Hp → VK → Prop := fun x H Q => ∃ (d : Addr) (kvs : List (Key × V)), x = .ref d ∧ Rd H d (.dK kvs) ∧
  ∀ (H' : Hp) (p : Addr) (ts : List Addr), (∀ b o, H b = some o → H' b = some o) → H p = none → (∀ t ∈ ts, H t = none) → p ∉ ts → H' p = some (.lst (ts.map V.ref)) → Paired (fun (t : Addr) (q : Key × V) => H' t = some (.tup [kV q.1, q.2])) ts kvs → Q (.ref p) H'
def tItR (te : TE) : TE := fun σ H Q => te σ H fun x H1 => rItR x H1 Q
section
variable {X : Cx} {os : List Nat} {e : Expr} {te : TE} {m : Ev → M D} {p apos cpos pos : Pos}
theorem pe_itR (hc : X.calm = true) (he : PE X e te) (hg : Gl X "list") (hm : X.mg "list" = none) (hbase : attributeBase e "items" X.env (eval e X.env) = eval e X.env := by rfl) (hline : (apos.endLine == cpos.line) = true := by rfl)
    (hs : starEach [.Call (.Attribute e "items" apos) [] [] cpos] X.env = (false, eval (.Call (.Attribute e "items" apos) [] [] cpos) X.env) :: starEach [] X.env := by rfl) :
    PE X (.Call (.Name "list" p) [.Call (.Attribute e "items" apos) [] [] cpos] [] pos) (tItR te) := by
  have boot : bootBuiltins "list" = some (.type "list") := by decide +kernel
  refine ⟨fun pins s σ H Q I hq => wpAny_Call_Name_kw (ld_blt I hg hm boot (PyProof.Rows.callWith_type1 ?_ hs rfl))⟩
  rw [hs]
  show wpAny _ _ (spliced ((false, eval (.Call (.Attribute e "items" apos) [] [] cpos) X.env) :: backTo pos (starEach [] X.env))) _ _ s
  refine Calls.spliced_cons (wpAny_Call_method (T := "dict") (id := "dict.items") hbase rfl hline F.plainAttrs_dict F.slot_dict_items F.type_dict_items (thn (he.run pins s σ H _ I hq) fun u s1 ⟨x, H1, J, rx, d, kvs, ex, hd, q⟩ => ?_))
  subst ex
  cases rx
  obtain ⟨hz, hs0, vs, kv, hdo⟩ := dk_rd J.hok hd
  obtain ⟨ep, atd⟩ := hdo.dictAt
  have lk : kvs.length = vs.length := Paired.length kv
  have J2 : Inv X pins σ H1 { s1 with heap := s1.heap.push { cls := .type "dict_items", data := .fields #[.ref d] } } := J.kept (t' := s1.toks) fun b ob q => Heap.get?_push_of_some _ q
  refine ⟨hdo.typeIs, hdo.mapOf.noDict, ?_⟩
  show wpAny _ _ (callWith cpos (.builtin "dict.items") [.ref d] [] []) _ X.xe s1
  refine method_meetsIn F.slot_dict_items F.entry_dict_items rfl (PySem.evalArgs_none ⟨rfl, hdo.typeIs, F.args_dict_items_1 _, _, meets_dict_items (mixKind X.prog X.w) d hs0, ⟨vs, hdo⟩, Calls.spliced_nil ?_⟩)
  refine PySem.W.kdx_call (knd := mixKind X.prog X.w) (kvs := vs) (ep := ep) (J.ok.hd hc) ⟨_, Heap.get?_push_size _ rfl, rfl, rfl⟩ (atd.push _) (by omega) fun h' tk acc c as hk hS hl hG hacc => ?_
  obtain ⟨H', k1, k2, k3, k4, k5, k6, J3⟩ := LiI.items_laid (tk := tk) J2 hz kv hk hS hl hG hacc
  exact ⟨.ref _, H', J3, rfl, q H' _ as k1 k2 k3 k4 k5 k6⟩
def dItL : D → M D
  | .dic kvs => pure (.lst (kvs.map fun kv => D.tup [keyOf kv.1, kv.2]))
  | _ => bad
theorem pairs_rep2 {K : PySem.W.Frag} {mg : Str → Option Value} {S : SA} {G : Hp} : ∀ {ts : List Addr} {kvs : List (Key × V)} {ds : List (Key × D)}, Paired (fun (t : Addr) (q : Key × V) => G t = some (.tup [kV q.1, q.2])) ts kvs → RepK K mg S G kvs ds → Reps K mg S G (ts.map V.ref) (ds.map fun kv => D.tup [keyOf kv.1, kv.2])
  | _, _, _, .nil, r => by cases r; exact .nil
  | _, _, _, .cons a b, r => by
    cases r with
    | cons ra rb => exact .cons (.tup (.inl (.inl a)) (.cons (rep_key _) (.one ra))) (pairs_rep2 b rb)
theorem paired_mem {α β : Type} {P : α → β → Prop} {a : α} : ∀ {xs : List α} {ys : List β}, Paired P xs ys → a ∈ xs → ∃ b, P a b
  | _, _, .nil, h => nomatch h
  | _, _, .cons p q, h => by
    rcases List.mem_cons.mp h with e | h
    · subst e; exact ⟨_, p⟩
    · exact paired_mem q h
theorem paired_imp {α β : Type} {P P' : α → β → Prop} : ∀ {xs : List α} {ys : List β}, Paired P xs ys → (∀ a ∈ xs, ∀ b, P a b → P' a b) → Paired P' xs ys
  | _, _, .nil, _ => .nil
  | _, _, .cons p q, h => .cons (h _ (List.mem_cons_self ..) _ p) (paired_imp q fun a ha => h a (List.mem_cons_of_mem _ ha))
theorem pmf_itL (hc : X.calm = true) (hg : Gl X "list") (hm : X.mg "list" = none) (ha : PMB X os e te m) (hbase : attributeBase e "items" X.env (eval e X.env) = eval e X.env := by rfl) (hline : (apos.endLine == cpos.line) = true := by rfl)
    (hs : starEach [.Call (.Attribute e "items" apos) [] [] cpos] X.env = (false, eval (.Call (.Attribute e "items" apos) [] [] cpos) X.env) :: starEach [] X.env := by rfl) :
    PMF X os (.Call (.Name "list" p) [.Call (.Attribute e "items" apos) [] [] cpos] [] pos) (tItR te) (eUn dItL m) := by
  refine ⟨pe_itR hc ha.p hg hm hbase hline hs, fun C G σ H env d Q I w => ?_⟩
  unfold eUn at w
  rw [Wp_bind] at w
  refine ha.s C G σ H env d _ I (w.imp fun x d1 w1 v1 H1 G1 A r1 => ?_)
  cases x with
  | dic ds =>
    obtain ⟨a, kvs, e1, h1, rr, n1⟩ := r1.dic' A.sub
    refine ⟨a, kvs, e1, h1, fun H' q ts k1 k2 k3 k4 k5 k6 => ?_⟩
    classical
    let G2 : Hp := fun b => if b ∈ ts then H' b else G1 b
    have gin : ∀ b, b ∈ ts → G2 b = H' b := fun b hb => if_pos hb
    have gout : ∀ b, b ∉ ts → G2 b = G1 b := fun b hb => if_neg hb
    have le : Le G1 G2 := fun b o e => by
      rw [gout b fun z => by rw [A.sub.free (k3 b z)] at e; cases e]
      exact e
    have A2 : Aft C.S G1 H1 G2 H' d1 := {
      hp := fun b o e _ => k1 b o e
      gm := le
      gn := fun b hb gb => by rw [gout b fun z => hb (k3 b z)]; exact gb
      st := ⟨k1 _ _ A.st.s, k1 _ _ A.st.g, k1 _ _ A.st.c, A.st.gc, fun b vs e => ⟨k1 _ _ (A.st.l b vs e).1, (A.st.l b vs e).2⟩⟩
      sub := fun b o e => by
        by_cases hb : b ∈ ts
        · rw [gin b hb] at e
          exact ⟨e, A.st.off (k3 b hb)⟩
        · rw [gout b hb] at e
          exact ⟨k1 b o (A.sub b o e).1, (A.sub b o e).2⟩ }
    exact w1 _ H' G2 (A.trans A2) (.lst (A.free k2) (by rw [gout q k4]; exact A.sub.free k2) k5 (pairs_rep2 (paired_imp k6 fun t ht b hb => (gin t ht).trans hb) (rr.mono' le)))
  | _ => exact w1.elim
end
end Mir
end
section
set_option Elab.async false
set_option linter.all false
set_option maxRecDepth 100000
set_option maxHeartbeats 1000000
/-! Mir, part V: calls whose things are all named. -/
namespace Mir
open PySem PySem.Spec PyProof.Rows L2
def permL {α : Type} (ix : List Nat) (xs : List α) : List α := ix.filterMap fun i => xs[i]?
def gP {α : Type} (n : Nat) (ix : List Nat) (us ws : List α) : List α := if us.length = 0 ∧ ws.length = n then permL ix ws else []
theorem permL_len {α : Type} {xs : List α} : ∀ {ix : List Nat}, (∀ i ∈ ix, i < xs.length) → (permL ix xs).length = ix.length
  | [], _ => rfl
  | i :: r, h => by
    have h1 := h i (List.mem_cons_self ..)
    unfold permL
    rw [List.filterMap_cons, List.getElem?_eq_getElem h1]
    show (permL r xs).length + 1 = r.length + 1
    rw [permL_len fun j hj => h j (List.mem_cons_of_mem _ hj)]
theorem vals_perm {vs : List V} {us : List Value} (r : Vals vs us) : ∀ ix : List Nat, Vals (permL ix vs) (permL ix us)
  | [] => .nil
  | i :: ix => by
    unfold permL
    rw [List.filterMap_cons, List.filterMap_cons]
    cases h : vs[i]? with
    | none =>
      have h2 : us[i]? = none := by
        rw [List.getElem?_eq_none_iff] at h ⊢
        rw [← r.length]; exact h
      rw [h2]
      exact vals_perm r ix
    | some v =>
      obtain ⟨u, e, ru⟩ := r.get h
      rw [e]
      exact .cons ru (vals_perm r ix)
theorem gP_rel {n : Nat} {ix : List Nat} {vs : List V} {us : List Value} {zs : List V} {ws : List Value} (r : Vals vs us) (r2 : Vals zs ws) : Vals (gP n ix vs zs) (gP n ix us ws) := by
  unfold gP
  rw [r.length, r2.length]
  split
  · exact vals_perm r2 ix
  · exact .nil
section
variable {K : PySem.W.Frag} {mg : Str → Option Value} {S : SA} {G : Hp}
theorem Reps.perm {vs : List V} {ds : List D} (r : Reps K mg S G vs ds) : ∀ ix : List Nat, Reps K mg S G (permL ix vs) (permL ix ds)
  | [] => .nil
  | i :: ix => by
    unfold permL
    rw [List.filterMap_cons, List.filterMap_cons]
    cases h : ds[i]? with
    | none =>
      have h2 : vs[i]? = none := by
        rw [List.getElem?_eq_none_iff] at h ⊢
        rw [r.length]; exact h
      rw [h2]
      exact Reps.perm r ix
    | some d =>
      obtain ⟨v, e, rv⟩ := r.get h
      rw [e]
      exact .cons rv (Reps.perm r ix)
end
theorem pe_callK0 {X : Cx} {CX : CXT} {k : Nat} {f : Addr} {fd : FuncData} {ps ks : List Str} {sp : Sp} {E : XK} {x : Str} {p pos : Pos} {kws : List Keyword} {tk : TA} {g : List Value → List Value → List Value} {gV : List V → List V → List V} (F : FnOk X.prog X.w X.K X.mg X.base CX k f fd ps sp) (hr : Room k X.A) (hg : Gl X x) (hm : X.mg x = some (.ref f)) (hk : PySem.W.keepIn X.K (.ref f) = true) (hb : KBinds X.K fd ps ks g gV) (hx : Passes CX X E)
    (hkw : PK X kws tk) (hall : (backToKw pos (keywordEach kws X.env)).all (·.1.isSome) = true := by rfl) (hks : (backToKw pos (keywordEach kws X.env)).filterMap (·.1) = ks := by rfl) (hdb : (x == ("__debug__" : Str)) = false := by decide)
    (hpl : ((backTo pos (starEach [] X.env)).any (·.1) || (backToKw pos (keywordEach kws X.env)).any (·.1.isNone)) = false := by rfl) : PE X (.Call (.Name x p) [] kws pos) (tCallK sp gV E tNil tk) :=
  ⟨fun pins s σ H Q I h => wpAny_Call_Name_kw (ld_glob I hg hm (PySem.W.callWith_KW0 (h₀ := X.base) I.ok.mod.kin hk hall (thn (hkw.run pos pins s σ H _ I h) fun ws s2 ⟨zs, H2, I2, rz, q2⟩ => ⟨I2.kIn, by
    rw [hks]
    exact run_fnk F hr hb hx I2 .nil rz q2⟩) hpl) hdb)⟩
structure PMK (X : Cx) (os : List Nat) (kws : List Keyword) (tk : TA) (ms : Ev → M (List D)) : Prop where
  p : PK X kws tk
  s : ∀ C, SimA X.K X.mg C os tk ms
def HasK (P : Program) (w : World) (K : PySem.W.Frag) (mg : Str → Option Value) (base : Heap) (k : Nat) (x : Str) (n : Nat) (ks : List Str) (ix : List Nat) (m : List D → M D) : Prop :=
  ∃ f fd ps, FnOk P w K mg base CX0 k f fd ps (spM K mg n m) ∧ mg x = some (.ref f) ∧ PySem.W.keepIn K (.ref f) = true ∧ KBinds K fd ps ks (gP n ix) (gP n ix)
def HasKN (P : Program) (w : World) (K : PySem.W.Frag) (mg : Str → Option Value) (base : Heap) (k : Nat) (x : Str) (n : Nat) (ks : List Str) (ix : List Nat) (m : List D → M D) : Prop :=
  ∃ f fd ps, FnOk P w K mg base CX0 k f fd ps (spN K mg n m) ∧ mg x = some (.ref f) ∧ PySem.W.keepIn K (.ref f) = true ∧ KBinds K fd ps ks (gP n ix) (gP n ix)
def eCallK (n : Nat) (ix : List Nat) (f : List D → M D) (ms : Ev → M (List D)) : Ev → M D := fun env => ms env >>= fun xs => guardB (xs.length == n) (f (permL ix xs))
section
variable {X : Cx} {os : List Nat} {e : Expr} {kws : List Keyword} {te : TE} {tk : TA} {m : Ev → M D} {ms : Ev → M (List D)} {x : Str} {p pos kpos : Pos} {k n : Nat} {nm : Option Str} {mf : List D → M D} {ks : List Str} {ix : List Nat}
theorem pmk_nil : PMK X os [] tNil aNil := ⟨pk_nil, fun C G σ H env d Q I w => w [] H G (Aft.refl I.st I.sub) .nil⟩
theorem pmk_cons (ha : PM X os e te m) (hr : PMK X os kws tk ms) : PMK X os (⟨nm, e, kpos⟩ :: kws) (tCons te tk) (aCons m ms) := by
  refine ⟨pk_cons ha.p hr.p, fun C G σ H env d Q I w => ?_⟩
  unfold aCons at w
  rw [Wp_bind] at w
  refine ha.s C G σ H env d _ I (w.imp fun y d1 w1 v1 H1 G1 A1 r1 => ?_)
  rw [Wp_bind] at w1
  exact hr.s C G1 σ H1 env d1 _ (I.later A1) (w1.imp fun xs d2 w2 vs H2 G2 A2 r2 => w2 (v1 :: vs) H2 G2 (A1.trans A2) (.cons (r1.mono A2.gm) r2))
theorem gP_of {vs : List V} (hl : vs.length = n) : gP n ix [] vs = permL ix vs := by
  unfold gP
  rw [if_pos ⟨rfl, hl⟩]
theorem pm_k (h : HasK X.prog X.w X.K X.mg X.base k x n ks ix mf) (hr : Room k X.A) (hg : Gl X x) (ha : PMK X os kws tk ms) (hix : ix.length = n ∧ ∀ i ∈ ix, i < n := by decide) (hall : (backToKw pos (keywordEach kws X.env)).all (·.1.isSome) = true := by rfl) (hks : (backToKw pos (keywordEach kws X.env)).filterMap (·.1) = ks := by rfl)
    (hdb : (x == ("__debug__" : Str)) = false := by decide) (hpl : ((backTo pos (starEach [] X.env)).any (·.1) || (backToKw pos (keywordEach kws X.env)).any (·.1.isNone)) = false := by rfl) :
    PM X os (.Call (.Name x p) [] kws pos) (tCallK (spM X.K X.mg n mf) (gP n ix) E0 tNil tk) (eCallK n ix mf ms) := by
  obtain ⟨f, fd, ps, F, hm, hk, hb⟩ := h
  refine ⟨pe_callK0 F hr hg hm hk hb pass0 ha.p hall hks hdb hpl, fun C G σ H env d Q I w => ?_⟩
  unfold eCallK at w
  rw [Wp_bind] at w
  refine ha.s C G σ H env d _ I (w.imp fun xs d1 w1 vs H1 G1 A1 r1 => ?_)
  rw [Wp_guard] at w1
  have hl : xs.length = n := by simpa using w1.1
  have hv : vs.length = n := r1.length.trans hl
  show spM X.K X.mg n mf (gP n ix [] vs) H1 Q E0
  rw [gP_of hv]
  exact ⟨by rw [permL_len fun i hi => by rw [hv]; exact hix.2 i hi]; exact hix.1, C.S, G1, permL ix xs, d1, A1.st, A1.sub, r1.perm ix, w1.2.imp fun y d2 kk v H' G' A2 r2 => kk v H' G' (A1.trans A2) r2⟩
theorem pmf_k (h : HasKN X.prog X.w X.K X.mg X.base k x n ks ix mf) (hr : Room k X.A) (hg : Gl X x) (ha : PMK X os kws tk ms) (hix : ix.length = n ∧ ∀ i ∈ ix, i < n := by decide) (hall : (backToKw pos (keywordEach kws X.env)).all (·.1.isSome) = true := by rfl) (hks : (backToKw pos (keywordEach kws X.env)).filterMap (·.1) = ks := by rfl)
    (hdb : (x == ("__debug__" : Str)) = false := by decide) (hpl : ((backTo pos (starEach [] X.env)).any (·.1) || (backToKw pos (keywordEach kws X.env)).any (·.1.isNone)) = false := by rfl) :
    PMF X os (.Call (.Name x p) [] kws pos) (tCallK (spN X.K X.mg n mf) (gP n ix) E0 tNil tk) (eCallK n ix mf ms) := by
  obtain ⟨f, fd, ps, F, hm, hk, hb⟩ := h
  refine ⟨pe_callK0 F hr hg hm hk hb pass0 ha.p hall hks hdb hpl, fun C G σ H env d Q I w => ?_⟩
  unfold eCallK at w
  rw [Wp_bind] at w
  refine ha.s C G σ H env d _ I (w.imp fun xs d1 w1 vs H1 G1 A1 r1 => ?_)
  rw [Wp_guard] at w1
  have hl : xs.length = n := by simpa using w1.1
  have hv : vs.length = n := r1.length.trans hl
  show spN X.K X.mg n mf (gP n ix [] vs) H1 Q E0
  rw [gP_of hv]
  exact ⟨by rw [permL_len fun i hi => by rw [hv]; exact hix.2 i hi]; exact hix.1, C.S, G1, permL ix xs, d1, A1.st, A1.sub, r1.perm ix, w1.2.imp fun y d2 kk v H' G' A2 r2 => kk v H' G' (A1.trans A2) (RepN.pull A1 r2)⟩
end
/-! ### the same def, called so and so -/
def HasC (sp : Nat → (List D → M D) → Sp) (P : Program) (w : World) (K : PySem.W.Frag) (mg : Str → Option Value) (base : Heap) (k : Nat) (x : Str) (st : Stmt) (ps : List Str) (n : Nat) (m : List D → M D) : Prop :=
  ∃ f fd, Fun K x x st f fd ∧ mg x = some (.ref f) ∧ FnOk P w K mg base CX0 k f fd ps (sp n m)
section
variable {P : Program} {w : World} {K : PySem.W.Frag} {mg : Str → Option Value} {base : Heap} {x : Str} {st : Stmt} {ps ks : List Str} {k n : Nat} {ix : List Nat} {m : List D → M D}
abbrev BindP (x : Str) (st : Stmt) (ps : List Str) : Prop := ∀ (kV doc pm : Value) (an : Option Addr) (cdv ct : Value) (us : List Value), us.length = ps.length → bindArgs (PySem.W.fnOf x x (defArgs st) (defBody st) (defScope st) .none kV doc pm an cdv ct) ⟨us, []⟩ = pure (ps.zip us)
abbrev BindK (x : Str) (st : Stmt) (ps ks : List Str) (n : Nat) (ix : List Nat) : Prop := ∀ (kV doc pm : Value) (an : Option Addr) (cdv ct : Value) (ws : List Value), ws.length = n → bindArgs (PySem.W.fnOf x x (defArgs st) (defBody st) (defScope st) .none kV doc pm an cdv ct) ⟨[], ks.zip ws⟩ = pure (ps.zip (permL ix ws))
theorem HasC.pos (h : HasC (spM K mg) P w K mg base k x st ps n m) (hb : BindP x st ps) : Has P w K mg base k x n m := by
  obtain ⟨f, fd, F, hm, ok⟩ := h
  exact ⟨f, fd, ps, ok, hm, F.kp, F.binds hb⟩
theorem HasC.posN (h : HasC (spN K mg) P w K mg base k x st ps n m) (hb : BindP x st ps) : HasN P w K mg base k x n m := by
  obtain ⟨f, fd, F, hm, ok⟩ := h
  exact ⟨f, fd, ps, ok, hm, F.kp, F.binds hb⟩
theorem kb_of {f : Addr} {fd : FuncData} (F : Fun K x x st f fd) (hn : ps.length = n) (h0 : 0 < n) (hb : BindK x st ps ks n ix) : KBinds K fd ps ks (gP n ix) (gP n ix) := by
  obtain ⟨oc, od, kV, doc, pm, an, cdv, ct, osl, efd, lk, hcd⟩ := F.ex
  subst efd
  refine ⟨fun s us ws KX hl => ?_, fun r1 r2 => gP_rel r1 r2⟩
  unfold gP at hl ⊢
  by_cases h : us.length = 0 ∧ ws.length = n
  · rw [if_pos h]
    have e : us = [] := List.eq_nil_of_length_eq_zero h.1
    subst e
    exact .of_eq (hb kV doc pm an cdv ct ws h.2)
  · rw [if_neg h, hn] at hl
    exact absurd hl (Nat.ne_of_lt h0)
theorem HasC.kw (h : HasC (spM K mg) P w K mg base k x st ps n m) (hn : ps.length = n) (h0 : 0 < n) (hb : BindK x st ps ks n ix) : HasK P w K mg base k x n ks ix m := by
  obtain ⟨f, fd, F, hm, ok⟩ := h
  exact ⟨f, fd, ps, ok, hm, F.kp, kb_of F hn h0 hb⟩
theorem HasC.kwN (h : HasC (spN K mg) P w K mg base k x st ps n m) (hn : ps.length = n) (h0 : 0 < n) (hb : BindK x st ps ks n ix) : HasKN P w K mg base k x n ks ix m := by
  obtain ⟨f, fd, F, hm, ok⟩ := h
  exact ⟨f, fd, ps, ok, hm, F.kp, kb_of F hn h0 hb⟩
theorem hasC_of {N : List Str} {os o2 ol : List Nat} {body : Ev → M Ctl} (F : Df K mg x st) (S : FnScope N ps (defScope st)) (hn : ps.length = n) (ho : ∀ i ∈ os, n ≤ i)
    (hbody : ∀ (f : Addr) (cdv : Value) (A : Around) (outer : List Env) (s : Shared) (H : Hp) (E : XK), Room k (A.deeper (envOfC x (defScope st) s.heap.objs.size f cdv)) →
      PMSs (cxOf CX0 P w K mg base N x (defScope st) f cdv A outer s H E).nox false os o2 ol (defBody st) body) : HasC (spM K mg) P w K mg base (k + 1) x st ps n (defM N.length body) := by
  obtain ⟨f, fd, F, hm⟩ := F
  exact ⟨f, fd, F, hm, ok_defM F S hn ho fun cdv A outer s H E hr => hbody f cdv A outer s H E hr⟩
theorem hasCN_of {N : List Str} {os o2 ol : List Nat} {body : Ev → M Ctl} (F : Df K mg x st) (S : FnScope N ps (defScope st)) (hn : ps.length = n) (ho : ∀ i ∈ os, n ≤ i) (hnx : ∀ env d e d', body env d ≠ .ok (.nx e) d')
    (hbody : ∀ (f : Addr) (cdv : Value) (A : Around) (outer : List Env) (s : Shared) (H : Hp) (E : XK), Room k (A.deeper (envOfC x (defScope st) s.heap.objs.size f cdv)) →
      PMSs (cxOf CX0 P w K mg base N x (defScope st) f cdv A outer s H E).nox true os o2 ol (defBody st) body) : HasC (spN K mg) P w K mg base (k + 1) x st ps n (defM N.length body) := by
  obtain ⟨f, fd, F, hm⟩ := F
  exact ⟨f, fd, F, hm, ok_defN F S hn ho hnx fun cdv A outer s H E hr => hbody f cdv A outer s H E hr⟩
end
end Mir
end
section
set_option Elab.async false
set_option linter.all false
set_option maxRecDepth 100000
set_option maxHeartbeats 1000000
/-! Mir, part W: a slot becomes one's own at its assignment. -/
namespace Mir
open PySem PySem.Spec PyProof.Rows L2
theorem IM.set_newO {K : PySem.W.Frag} {mg : Str → Option Value} {C : Ct} {os : List Nat} {env : Ev} {σ : St} {G H G' H' : Hp} {d d' : Drw} {v : V} {x : D} {i : Nat} (I : IM K mg C os env σ H G d) (A : Aft C.S G H G' H' d') (hi : i ∉ os) (r : RepN K mg C.S G H G' H' v x) :
    IM K mg C (i :: os) (env.set i (some x)) (σ.set i (some v)) H' G' d' := by
  have J := I.later A
  have apart : ∀ a, v = .ref a → ∀ j y, j ∈ os → env[j]? = some (some y) → σ[j]? ≠ some (some (.ref a)) := fun a ea j y hj e z => by
    obtain ⟨b, e1, o⟩ := I.ow j y hj e
    rw [z] at e1
    cases e1
    cases o with
    | ref o => exact o.o.at (RepN.addr r ea).1
  have oa : OwnV K mg C G' H' v x := by
    cases r with
    | non => exact .non
    | lst n g h r => exact .ref ⟨g, I.st.off n, I.aft.free n, ⟨_, h, r⟩⟩
    | dic n g h r => exact .ref ⟨g, I.st.off n, I.aft.free n, ⟨_, h, r⟩⟩
  have at_i : ∀ y, (env.set i (some x))[i]? = some (some y) → y = x ∧ (σ.set i (some v))[i]? = some (some v) := fun y e => by
    have hl : i < env.length := by
      have := (List.getElem?_eq_some_iff.mp e).1
      rwa [List.length_set] at this
    rw [List.getElem?_set_self hl] at e
    cases e
    exact ⟨rfl, List.getElem?_set_self (by rw [I.len]; exact hl)⟩
  exact {
    aft := J.aft
    len := by rw [List.length_set, List.length_set]; exact I.len
    sh := fun j y hj e => by
      have z : i ≠ j := fun z => hj (z ▸ List.mem_cons_self ..)
      rw [List.getElem?_set_ne z] at e ⊢
      exact J.sh j y (fun h => hj (List.mem_cons_of_mem _ h)) e
    ow := fun j y hj e => by
      by_cases z : i = j
      · subst z
        obtain ⟨e1, e2⟩ := at_i y e
        subst e1
        exact ⟨_, e2, oa⟩
      · rw [List.getElem?_set_ne z] at e ⊢
        exact J.ow j y ((List.mem_cons.mp hj).resolve_left fun h => z h.symm) e
    dis := fun j k y z b hj hk e1 e2 e3 e4 => by
      by_cases z1 : i = j
      · by_cases z2 : i = k
        · rw [← z1, ← z2]
        · subst z1
          rw [List.getElem?_set_ne z2] at e2 e4
          rw [(at_i y e1).2] at e3
          cases e3
          exact absurd e4 (apart _ rfl k z ((List.mem_cons.mp hk).resolve_left fun h => z2 h.symm) e2)
      · by_cases z2 : i = k
        · subst z2
          rw [List.getElem?_set_ne z1] at e1 e3
          rw [(at_i z e2).2] at e4
          cases e4
          exact absurd e3 (apart _ rfl j y ((List.mem_cons.mp hj).resolve_left fun h => z1 h.symm) e1)
        · rw [List.getElem?_set_ne z1] at e1 e3
          rw [List.getElem?_set_ne z2] at e2 e4
          exact J.dis j k y z b ((List.mem_cons.mp hj).resolve_left fun h => z1 h.symm) ((List.mem_cons.mp hk).resolve_left fun h => z2 h.symm) e1 e2 e3 e4 }
section
variable {X : Cx} {fr : Bool} {os os' ol : List Nat} {e : Expr} {te : TE} {m : Ev → M D} {pos p' : Pos} {y : Str}
/-- x = e, from here on one's own -/
theorem pms_setO (i : Nat) (hi : i ∉ os) (hN : X.N.Nodup) (hy : X.N[i]? = some y) (hl : Loc X.env.scope y) (h : PMF X os e te m) (hs : swapsWith e (some (.Name y p')) pos.line X.env = pure false := by rfl)
    (hf : X.fn y = true ∨ X.env.scope.names.lookup y = some .local := by first | exact .inl rfl | exact .inr rfl | assumption) : PMS X fr os (i :: os) ol (.Assign [.Name y p'] e pos) (cSet i m) := by
  obtain ⟨p, s⟩ := h
  refine ⟨_, ps_set hN hy hl p hs hf, fun C G σ H env d D I w => ?_⟩
  unfold cSet at w
  rw [Wp_bind] at w
  exact s C G σ H env d _ I (w.imp fun x d1 k v H' G' A r => k _ H' G' A.gm (I.set_newO A hi r))
end
end Mir
end
section
set_option Elab.async false
set_option linter.all false
set_option maxRecDepth 100000
set_option maxHeartbeats 1000000
/-! Mir, part X: objects made: __init__ of tests that raise and fields stored; C(a, .., k = v, ..). -/
namespace Mir
open PySem PySem.Spec PyProof.Rows L2
def putFD (f : Str) (x : D) : List (Str × D) → List (Str × D)
  | [] => [(f, x)]
  | (k, u) :: r => if k = f then (k, x) :: r else (k, u) :: putFD f x r
section
variable {K : PySem.W.Frag} {mg : Str → Option Value} {S : SA} {G G' : Hp}
theorem RepF.put {f : Str} {v : V} {x : D} (rv : Rep K mg S G v x) : ∀ {vs : List (Str × V)} {ds : List (Str × D)}, RepF K mg S G vs ds → RepF K mg S G (putF f v vs) (putFD f x ds)
  | _, _, .nil => .cons rv .nil
  | (k, v1) :: vs, (_, d1) :: ds, .cons a b => by
    unfold putF putFD
    by_cases h : k = f
    · rw [if_pos h, if_pos h]; exact .cons rv b
    · rw [if_neg h, if_neg h]; exact .cons a (RepF.put rv b)
theorem RepF.len : ∀ {vs : List (Str × V)} {ds : List (Str × D)}, RepF K mg S G vs ds → vs.length = ds.length
  | _, _, .nil => rfl
  | _, _, .cons _ b => congrArg (· + 1) (RepF.len b)
theorem RepF.mono' {vs : List (Str × V)} {ds : List (Str × D)} (h : RepF K mg S G vs ds) (e : Le G G') : RepF K mg S G' vs ds := RepF.mono e h
end
/-- the object being made -/
structure IN (K : PySem.W.Frag) (mg : Str → Option Value) (C : Ct) (x Cc dx : Addr) (env : Ev) (σ : St) (H G : Hp) (d : Drw) (vfs : List (Str × V)) (fs : List (Str × D)) : Prop where
  im : IM K mg C [] env σ H G d
  sf : σ[0]? = some (some (.ref x))
  at_ : H x = some (.ins Cc dx vfs)
  rf : RepF K mg C.S G vfs fs
  g : G x = none
  h : C.H x = none
  n : ¬ inS C.S x
def SimN (K : PySem.W.Frag) (mg : Str → Option Value) (c : Str) (ts : TS) (m : Ev → List (Str × D) → M (List (Str × D))) : Prop := ∀ C x Cc dx G σ H env d vfs fs (D : Ends), mg c = some (.ref Cc) → IN K mg C x Cc dx env σ H G d vfs fs →
  Wp (m env fs d) (fun fs' d' => ∀ H' G' vfs', IN K mg C x Cc dx env σ H' G' d' vfs' fs' → D.nx σ H') → ts D σ H
def PMN (X : Cx) (c : Str) (sts : List Stmt) (m : Ev → List (Str × D) → M (List (Str × D))) : Prop := ∃ ts, PSs X sts ts ∧ SimN X.K X.mg c ts m
theorem IN.later {K : PySem.W.Frag} {mg : Str → Option Value} {C : Ct} {x Cc dx : Addr} {env : Ev} {σ : St} {H G H' G' : Hp} {d d' : Drw} {vfs : List (Str × V)} {fs : List (Str × D)} (I : IN K mg C x Cc dx env σ H G d vfs fs) (A : Aft C.S G H G' H' d') : IN K mg C x Cc dx env σ H' G' d' vfs fs :=
  ⟨I.im.later A, I.sf, A.hp _ _ I.at_ I.n, I.rf.mono' A.gm, A.gn _ (by rw [I.at_]; exact fun z => nomatch z) I.g, I.h, I.n⟩
theorem IN.put {K : PySem.W.Frag} {mg : Str → Option Value} {C : Ct} {x Cc dx : Addr} {env : Ev} {σ : St} {H G : Hp} {d : Drw} {vfs : List (Str × V)} {fs : List (Str × D)} {f : Str} {v : V} {y : D} (I : IN K mg C x Cc dx env σ H G d vfs fs) (r : Rep K mg C.S G v y) :
    IN K mg C x Cc dx env σ (upd H x (.ins Cc dx (putF f v vfs))) G d (putF f v vfs) (putFD f y fs) where
  im := {
    aft := {
      hp := fun b u e n => by
        have z : b ≠ x := fun z => by rw [z, I.h] at e; cases e
        rw [upd_ne z]; exact I.im.aft.hp b u e n
      gm := I.im.aft.gm
      gn := I.im.aft.gn
      st := I.im.st.alt I.n
      sub := fun b u e => by
        have z : b ≠ x := fun z => by rw [z, I.g] at e; cases e
        rw [upd_ne z]; exact I.im.sub b u e }
    len := I.im.len
    sh := I.im.sh
    ow := fun i y hi => (nomatch hi)
    dis := fun i j x y a hi => (nomatch hi) }
  sf := I.sf
  at_ := upd_same
  rf := I.rf.put r
  g := I.g
  h := I.h
  n := I.n
def nNil : Ev → List (Str × D) → M (List (Str × D)) := fun _ fs => pure fs
def nIf (n : Ev → M Bool) (r : Ev → List (Str × D) → M (List (Str × D))) : Ev → List (Str × D) → M (List (Str × D)) := fun env fs => n env >>= fun b => if b = true then bad else r env fs
def nFld (f : Str) (m : Ev → M D) (r : Ev → List (Str × D) → M (List (Str × D))) : Ev → List (Str × D) → M (List (Str × D)) := fun env fs => m env >>= fun y => guardB (decide (fs.length < 1000)) (r env (putFD f y fs))
section
variable {X : Cx} {c : Str} {sts : List Stmt} {r : Ev → List (Str × D) → M (List (Str × D))} {pos p p2 : Pos}
theorem pmn_nil : PMN X c [] nNil := ⟨tNext, pss_nil, fun C x Cc dx G σ H env d vfs fs D hC I w => w H G vfs I⟩
/-- if ..: raise .. -/
theorem pmn_if {e : Expr} {rs : List Stmt} {tt : TT} {n : Ev → M Bool} (hc : PMT X [] e tt n) (hr : PMN X c sts r) : PMN X c (.If e rs [] pos :: sts) (nIf n r) := by
  obtain ⟨ts, p, s⟩ := hr
  refine ⟨_, pss_cons (ps_if hc.p pss_never pss_nil) p, fun C x Cc dx G σ H env d vfs fs D hC I w => ?_⟩
  unfold nIf at w
  rw [Wp_bind] at w
  refine hc.s C G σ H env d _ I.im (w.imp fun b d1 w1 H1 G1 A => ?_)
  cases b with
  | true => rw [if_pos rfl] at w1; exact w1.elim
  | false =>
    rw [if_neg Bool.false_ne_true] at w1
    exact iteF (s C x Cc dx G1 σ H1 env d1 vfs fs D hC (I.later A) w1)
/-- self.f = e -/
theorem pmn_fld {e : Expr} {f self : Str} {te : TE} {m : Ev → M D} (hf : HasF X.K X.mg c f) (h : PM X [] e te m) (hr : PMN X c sts r) (hs : swapsWith e (some (.Attribute (.Name self p) f p2)) pos.line X.env = pure false := by rfl)
    (hN : X.N[0]? = some self := by rfl) (hv : Vis X.env.scope self := by first | exact Or.inl rfl | exact Or.inr (Or.inl rfl) | exact Or.inr (Or.inr rfl)) (hd : (self == ("__debug__" : Str)) = false := by decide) (hcd : (self == ("__classdict__" : Str)) = false := by decide) :
    PMN X c (.Assign [.Attribute (.Name self p) f p2] e pos :: sts) (nFld f m r) := by
  obtain ⟨ts, pp, s⟩ := hr
  obtain ⟨C0, hC0, hcl, hna⟩ := hf
  refine ⟨_, pss_cons (ps_fld (pe_var (i := 0) hN hv hd hcd) h.p hs) pp, fun C x Cc dx G σ H env d vfs fs D hC I w => ?_⟩
  rw [hC0] at hC
  have eC := Option.some.inj hC
  injection eC with eC
  subst eC
  unfold nFld at w
  rw [Wp_bind] at w
  refine h.s C G σ H env d _ I.im (w.imp fun y d1 w1 v H1 G1 A rv => ?_)
  rw [Wp_guard] at w1
  have I1 := I.later A
  refine ⟨_, I.sf, x, C0, dx, vfs, rfl, I1.at_, hcl, hna, by rw [I1.rf.len]; exact of_decide_eq_true w1.1, ?_⟩
  exact s C x C0 dx G1 σ _ env d1 _ _ D hC0 (I1.put rv) w1.2
end
/-! ### made -/
def spI (K : PySem.W.Frag) (mg : Str → Option Value) (c : Str) (n : Nat) (m : List D → M (List (Str × D))) : Sp := fun vs H Q _ => ∃ x Cc dx ws S G H0 ds d, mg c = some (.ref Cc) ∧ vs = .ref x :: ws ∧ ws.length = n ∧ H = upd (upd H0 dx (.own x)) x (.ins Cc dx []) ∧ H0 x = none ∧ H0 dx = none ∧ dx ≠ x ∧ StR S H0 d ∧ Sub S G H0 ∧ Reps K mg S G ws ds ∧
  Wp (m ds d) fun fs d' => ∀ H' G' vfs, Aft S G H0 G' H' d' → G' x = none → H' x = some (.ins Cc dx vfs) → RepF K mg S G' vfs fs → Q .non H'
def initM (nl : Nat) (body : Ev → List (Str × D) → M (List (Str × D))) : List D → M (List (Str × D)) := fun ds => body (none :: (ds.map some ++ List.replicate (nl - (ds.length + 1)) none)) []
/-- a class with its __init__, as text -/
def DfI (K : PySem.W.Frag) (mg : Str → Option Value) (c qual : Str) (st : Stmt) : Prop := ∃ Cc f fd, mg c = some (.ref Cc) ∧ Mk K Cc f ∧ Fun K "__init__" qual st f fd
def HasI (P : Program) (w : World) (K : PySem.W.Frag) (mg : Str → Option Value) (base : Heap) (k : Nat) (c : Str) (n : Nat) (ks : List Str) (m : List D → M (List (Str × D))) : Prop :=
  ∃ Cc f fd ps, mg c = some (.ref Cc) ∧ Mk K Cc f ∧ FnOk P w K mg base CX0 k f fd ps (spI K mg c (n + ks.length) m) ∧ KBn K fd ps (n + 1) ks (fun us ws => us ++ ws) (fun vs zs => vs ++ zs)
section
variable {P : Program} {w : World} {K : PySem.W.Frag} {mg : Str → Option Value} {base : Heap}
theorem IN.start {N : List Str} {S : SA} {G H0 : Hp} {d : Drw} {x Cc dx : Addr} {ws : List V} {ds : List D} (st : StR S H0 d) (sub : Sub S G H0) (r : Reps K mg S G ws ds) (h1 : H0 x = none) (h2 : H0 dx = none) (h3 : dx ≠ x) :
    IN K mg ⟨S, G, H0⟩ x Cc dx (none :: (ds.map some ++ List.replicate (N.length - (ds.length + 1)) none)) (L2.start N (.ref x :: ws)) (upd (upd H0 dx (.own x)) x (.ins Cc dx [])) G d [] [] := by
  have A1 : Aft S G H0 G (upd H0 dx (.own x)) d := Aft.newF st sub h2
  have A2 : Aft S G (upd H0 dx (.own x)) G (upd (upd H0 dx (.own x)) x (.ins Cc dx [])) d := Aft.newF A1.st A1.sub (by rw [upd_ne (Ne.symm h3)]; exact h1)
  have e : L2.start N (.ref x :: ws) = some (.ref x) :: (ws.map some ++ List.replicate (N.length - (ws.length + 1)) none) := rfl
  exact {
    im := {
      aft := A1.trans A2
      len := by
        rw [e, List.length_cons, List.length_cons, List.length_append, List.length_append, List.length_map, List.length_map, List.length_replicate, List.length_replicate, r.length]
      sh := fun i y _ q => by
        rw [e]
        cases i with
        | zero => cases q
        | succ i =>
          rw [List.getElem?_cons_succ] at q ⊢
          rw [r.length]
          exact Reps.start _ i y r q
      ow := fun i y hi => (nomatch hi)
      dis := fun i j y z a hi => (nomatch hi) }
    sf := by rw [e]; rfl
    at_ := upd_same
    rf := .nil
    g := sub.free h1
    h := h1
    n := st.off h1 }
theorem hasI_of {c qual : Str} {st : Stmt} {N ps ks : List Str} {k n : Nat} {body : Ev → List (Str × D) → M (List (Str × D))} (F : DfI K mg c qual st) (S : FnScope N ps (defScope st)) (hn : ps.length = n + ks.length + 1)
    (hb : ∀ (kV doc pm : Value) (an : Option Addr) (cdv ct : Value) (us ws : List Value), us.length = n + 1 → ws.length = ks.length → bindArgs (PySem.W.fnOf "__init__" qual (defArgs st) (defBody st) (defScope st) .none kV doc pm an cdv ct) ⟨us, ks.zip ws⟩ = pure (ps.zip (us ++ ws)))
    (hbody : ∀ (f : Addr) (cdv : Value) (A : Around) (outer : List Env) (s : Shared) (H : Hp) (E : XK), Room k (A.deeper (envOfC qual (defScope st) s.heap.objs.size f cdv)) →
      PMN (cxOf CX0 P w K mg base N qual (defScope st) f cdv A outer s H E).nox c (defBody st) body) : HasI P w K mg base (k + 1) c n ks (initM N.length body) := by
  obtain ⟨Cc, f, fd, hC, hM, F⟩ := F
  refine ⟨Cc, f, fd, ps, hC, hM, F.ok S (fun vs H Q E h => ?_) fun cdv A outer s H vs Q E hr h => ?_, ?_⟩
  · obtain ⟨x, C', dx, ws, S', G, H0, ds, d, _, e1, e2, _⟩ := h
    rw [e1, List.length_cons, e2, hn]
  · obtain ⟨x, C', dx, ws, S', G, H0, ds, d, hC', e1, e2, e3, h1, h2, h3, st', sub, r, w⟩ := h
    subst e1
    subst e3
    obtain ⟨ts, p, sm⟩ := hbody f cdv A outer s _ E hr
    refine ⟨ts, p, sm ⟨S', G, H0⟩ x C' dx G _ _ _ d [] [] _ hC' (IN.start st' sub r h1 h2 h3) ?_⟩
    unfold initM at w
    exact w.imp fun fs d1 kk H' G' vfs' J => kk H' G' vfs' J.im.aft J.g J.at_ J.rf
  · obtain ⟨oc, od, kV, doc, pm, an, cdv, ct, osl, efd, lk, hcd⟩ := F.ex
    subst efd
    exact ⟨fun s us ws _ l1 l2 => .of_eq (hb kV doc pm an cdv ct us ws l1 l2), fun r1 r2 => r1.append r2⟩
end
def eMk (c : Str) (n nk : Nat) (m : List D → M (List (Str × D))) (ma mk : Ev → M (List D)) : Ev → M D := fun env => ma env >>= fun xs => mk env >>= fun ys => guardB (xs.length == n && ys.length == nk) (m (xs ++ ys) >>= fun fs => pure (.obj c fs))
def tMk (K : PySem.W.Frag) (mg : Str → Option Value) (c : Str) (n nk : Nat) (m : List D → M (List (Str × D))) (ta tk : TA) : TE := fun σ H Q => ∀ Cc, mg c = some (.ref Cc) → tMakeK Cc n nk (spI K mg c (n + nk) m) (fun vs zs => vs ++ zs) E0 ta tk σ H Q
theorem pm_mk {X : Cx} {os : List Nat} {e : Expr} {es : List Expr} {kws : List Keyword} {ta tk : TA} {ma mk : Ev → M (List D)} {c : Str} {p pos : Pos} {k n nk : Nat} {ks : List Str} {m : List D → M (List (Str × D))} (h : HasI X.prog X.w X.K X.mg X.base k c n ks m) (hr : Room (k + 1) X.A) (hg : Gl X c) (ha : PMA X os (e :: es) ta ma) (hk : PMK X os kws tk mk)
    (hnk : ks.length = nk := by rfl) (hall : (backToKw pos (keywordEach kws X.env)).all (·.1.isSome) = true := by rfl) (hks : (backToKw pos (keywordEach kws X.env)).filterMap (·.1) = ks := by rfl) (hdb : (c == ("__debug__" : Str)) = false := by decide)
    (he : starEach (e :: es) X.env = (false, eval e X.env) :: starEach es X.env := by rfl) (hpl : ((backTo pos (starEach (e :: es) X.env)).any (·.1) || (backToKw pos (keywordEach kws X.env)).any (·.1.isNone)) = false := by rfl) :
    PM X os (.Call (.Name c p) (e :: es) kws pos) (tMk X.K X.mg c n nk m ta tk) (eMk c n nk m ma mk) := by
  subst hnk
  obtain ⟨Cc, f, fd, ps, hC, hM, F, hb⟩ := h
  have q := pe_makeK (E := E0) (p := p) hM F hr hg hC hb pass0 ha.p hk.p hall hks hdb he hpl
  refine ⟨⟨fun pins s σ H Q I w => q.run pins s σ H Q I (w Cc hC)⟩, fun C G σ H env d Q I w C' hC' => ?_⟩
  unfold eMk at w
  rw [Wp_bind] at w
  refine ha.s C G σ H env d _ I (w.imp fun xs d1 w1 vs H1 G1 A1 r1 => ?_)
  rw [Wp_bind] at w1
  refine hk.s C G1 σ H1 env d1 _ (I.later A1) (w1.imp fun ys d2 w2 zs H2 G2 A2 r2 => ?_)
  rw [Wp_guard, Wp_bind] at w2
  have hl : xs.length = n ∧ ys.length = ks.length := by simpa using w2.1
  refine ⟨r1.length.trans hl.1, r2.length.trans hl.2, fun x dx h1 h2 h3 => ?_⟩
  refine ⟨x, C', dx, vs ++ zs, C.S, G2, H2, xs ++ ys, d2, hC', rfl, ?_, rfl, h1, h2, h3, A2.st, A2.sub, (r1.mono A2.gm).append r2, w2.2.imp fun fs d3 w3 H' G' vfs A3 gx hx rf => ⟨rfl, ?_⟩⟩
  · rw [List.length_append, r1.length, r2.length, hl.1, hl.2]
  · have AF := A3.freeze (A2.st.off h1) gx h1 hx
    exact w3 _ H' _ (A1.trans (A2.trans AF)) (.obj hC' upd_same (rf.mono' (Le.new gx)))
end Mir
end
section
set_option Elab.async false
set_option linter.all false
set_option maxRecDepth 100000
set_option maxHeartbeats 1000000
/-! Mir, part T: unpacking, extend, pop(0), clear, moves, methods with arguments, defaults of keywords. -/
namespace Mir
open PySem PySem.Spec PyProof.Rows L2
section
variable {X : Cx} {fr : Bool} {os os' ol tv : List Nat} {e o a b tg : Expr} {es : List Expr} {te to ta tb : TE} {tas : TA} {m mo ma mb : Ev → M D} {ms : Ev → M (List D)} {p pos p' apos p2 p3 : Pos} {k n : Nat} {x y cn mt : Str} {mf : List D → M D} {g : TG} {t : Ev → D → Option Ev}
/-- target = e -/
def cAsg (t : Ev → D → Option Ev) (m : Ev → M D) : Ev → M Ctl := fun env => m env >>= fun x => match t env x with
  | some e => pure (.nx e)
  | none => bad
theorem pms_asg (h : PM X os e te m) (hg : PMG X os tv tg g t)
    (hs : swapsWithSole [tg] e pos.line X.env = pure false := by rfl) (hw : swappedStores [tg] e X.env = pure none := by rfl) (h1 : (assignEach [tg] X.env).map (·.2) = [assign tg X.env] := by rfl) :
    PMS X fr os os ol (.Assign [tg] e pos) (cAsg t m) := by
  obtain ⟨p, s⟩ := h
  obtain ⟨pg, sg⟩ := hg
  refine ⟨_, ps_asg p pg hs hw h1, fun C G σ H env d D I w => ?_⟩
  unfold cAsg at w
  rw [Wp_bind] at w
  refine s C G σ H env d _ I (w.imp fun x d1 w1 v H1 G1 A r => ?_)
  cases ht : t env x with
  | none => simp only [ht] at w1; exact w1.elim
  | some e1 =>
    simp only [ht] at w1
    exact sg C G1 σ H1 env d1 v x e1 _ (I.later A) r ht fun σ' I' _ _ => w1 σ' H1 G1 A.gm I'
/-- x.extend(e) -/
def cExt (i : Nat) (m : Ev → M D) : Ev → M Ctl := fun env => m env >>= fun y => match y with
  | .lst ys => (match env[i]? with
    | some (some (.lst xs)) => guardB (decide (xs.length + ys.length ≤ sizeLine)) (pure (.nx (env.set i (some (.lst (xs ++ ys))))))
    | _ => bad)
  | _ => bad
theorem pms_ext (i : Nat) (h : PM X os e te m) (hi : i ∈ os := by decide) (hN : X.N[i]? = some x := by rfl) (hv : Vis X.env.scope x := by first | exact Or.inl rfl | exact Or.inr (Or.inl rfl) | exact Or.inr (Or.inr rfl)) (hd : (x == ("__debug__" : Str)) = false := by decide) (hcd : (x == ("__classdict__" : Str)) = false := by decide)
    (hbase : attributeBase (.Name x p2) "extend" X.env (eval (.Name x p2) X.env) = eval (.Name x p2) X.env := by rfl)
    (hfew : ((backTo p3 (starEach [e] X.env)).all (fun x => !x.1) && (backToKw p3 (keywordEach [] X.env)).all (fun x => x.1.isSome) && decide ([e].length + ([] : List Keyword).length + (if ([] : List Keyword).isEmpty then 0 else 1) < 30)) = true := by rfl)
    (hline : (p'.endLine == p3.line) = true := by rfl) (hst : starEach [e] X.env = (false, eval e X.env) :: starEach [] X.env := by rfl) (hplain : (backTo p3 (starEach [] X.env)).any (·.1) = false := by rfl)
    (hs : swapsWith (.Call (.Attribute (.Name x p2) "extend" p') [e] [] p3) none pos.line X.env = pure false := by rfl) :
    PMS X fr os os ol (.Expr (.Call (.Attribute (.Name x p2) "extend" p') [e] [] p3) pos) (cExt i m) := by
  refine ⟨_, ps_expr (pe_bm PySem.F.plainAttrs_list PySem.F.slot_list_extend PySem.F.type_list_extend mt_extend (pe_var (i := i) hN hv hd hcd) (pa_cons h.p pa_nil hst) hbase hfew hline hst hplain) hs, fun C G σ H env d D I w => ?_⟩
  unfold cExt at w
  rw [Wp_bind] at w
  cases hm : m env d with
  | bad => rw [hm] at w; exact w.elim
  | ok y d1 =>
    rw [hm] at w
    cases y with
    | lst ys =>
      obtain ⟨xs, ee, w1⟩ := ownL_some (f := fun xs => guardB (decide (xs.length + ys.length ≤ sizeLine)) (pure (.nx (env.set i (some (.lst (xs ++ ys))))))) w
      rw [Wp_guard] at w1
      obtain ⟨a, e2, oa⟩ := I.owA hi ee (fun z => nomatch z)
      obtain ⟨vs, h1, rv⟩ := oa.o
      refine ⟨_, e2, .inl ⟨rfl, vs, .inl (.inl h1)⟩, ?_⟩
      refine h.s C G σ H env d _ I ?_
      rw [hm]
      intro v H1 G1 A r
      have I1 := I.later A
      have h1' := A.hp a _ h1 oa.n
      obtain ⟨b, ws, eb, hb, rb, nb⟩ := (RepT.of (H := H1) r).lst' A.sub
      refine ⟨a, b, vs, ws, rfl, by rw [eb], h1', hb, by rw [rv.length, rb.length]; exact of_decide_eq_true w1.1, ?_⟩
      obtain ⟨a2, e3, oa2⟩ := I1.owA hi ee (fun z => nomatch z)
      rw [e2] at e3; cases e3
      exact w1.2 σ _ G1 A.gm (I1.mut hi ee e2 oa2 ⟨_, upd_same, (rv.mono A.gm).append rb⟩)
    | _ => exact w.elim
/-- x.clear(), a list -/
def cClrL (i : Nat) : Ev → M Ctl := fun env => match env[i]? with
  | some (some (.lst _)) => pure (.nx (env.set i (some (.lst []))))
  | _ => bad
theorem pms_clrL (i : Nat) (hi : i ∈ os := by decide) (hN : X.N[i]? = some x := by rfl) (hv : Vis X.env.scope x := by first | exact Or.inl rfl | exact Or.inr (Or.inl rfl) | exact Or.inr (Or.inr rfl)) (hd : (x == ("__debug__" : Str)) = false := by decide) (hcd : (x == ("__classdict__" : Str)) = false := by decide)
    (hbase : attributeBase (.Name x p2) "clear" X.env (eval (.Name x p2) X.env) = eval (.Name x p2) X.env := by rfl)
    (hline : (p'.endLine == p3.line) = true := by rfl)
    (hs : swapsWith (.Call (.Attribute (.Name x p2) "clear" p') [] [] p3) none pos.line X.env = pure false := by rfl) :
    PMS X fr os os ol (.Expr (.Call (.Attribute (.Name x p2) "clear" p') [] [] p3) pos) (cClrL i) := by
  refine ⟨_, ps_expr (pe_bm0 PySem.F.plainAttrs_list PySem.F.slot_list_clear PySem.F.type_list_clear mt_clear (pe_var (i := i) hN hv hd hcd) hbase hline) hs, fun C G σ H env d D I w => ?_⟩
  obtain ⟨xs, ee, w1⟩ := ownL_some (f := fun _ => pure (.nx (env.set i (some (.lst []))))) w
  obtain ⟨a, e2, oa⟩ := I.owA hi ee (fun z => nomatch z)
  obtain ⟨vs, h1, rv⟩ := oa.o
  exact ⟨_, e2, .inl ⟨rfl, vs, .inl (.inl h1)⟩, a, vs, rfl, rfl, h1, w1 σ _ G (Le.refl G) (I.mut hi ee e2 oa ⟨_, upd_same, .nil⟩)⟩
/-- x = y, both slots of one's own; y holds nothing any more -/
def cMove (i j : Nat) : Ev → M Ctl := fun env => match env[j]? with
  | some (some z) => pure (.nx ((env.set j none).set i (some z)))
  | _ => bad
theorem IM.move {K : PySem.W.Frag} {mg : Str → Option Value} {C : Ct} {env : Ev} {σ : St} {G H : Hp} {d : Drw} {i j : Nat} {z : D} {v : V} (I : IM K mg C os env σ H G d) (hi : i ∈ os) (hj : j ∈ os) (hij : i ≠ j) (ee : env[j]? = some (some z)) (ev : σ[j]? = some (some v)) : IM K mg C os ((env.set j none).set i (some z)) (σ.set i (some v)) H G d := by
  have back : ∀ {l : Nat} {u : D}, ((env.set j none).set i (some z))[l]? = some (some u) → i ≠ l → env[l]? = some (some u) ∧ l ≠ j := fun {l u} e zl => by
    rw [List.getElem?_set_ne zl] at e
    by_cases zj : j = l
    · subst zj
      have hl := (List.getElem?_eq_some_iff.mp e).1
      rw [List.length_set] at hl
      rw [List.getElem?_set_self hl] at e
      cases e
    · rw [List.getElem?_set_ne zj] at e
      exact ⟨e, fun q => zj q.symm⟩
  have self : ∀ {u : D}, ((env.set j none).set i (some z))[i]? = some (some u) → u = z ∧ (σ.set i (some v))[i]? = some (some v) := fun {u} e => by
    have hl := (List.getElem?_eq_some_iff.mp e).1
    rw [List.length_set] at hl
    rw [List.getElem?_set_self hl] at e
    cases e
    rw [List.length_set] at hl
    exact ⟨rfl, List.getElem?_set_self (by rw [I.len]; exact hl)⟩
  exact {
    aft := I.aft
    len := by rw [List.length_set, List.length_set, List.length_set]; exact I.len
    sh := fun l y hl e => by
      have zl : i ≠ l := fun q => hl (q ▸ hi)
      rw [List.getElem?_set_ne zl]
      exact I.sh l y hl (back e zl).1
    ow := fun l y hl e => by
      by_cases zl : i = l
      · subst zl
        obtain ⟨e1, e2⟩ := self e
        subst e1
        obtain ⟨v', q1, q2⟩ := I.ow j _ hj ee
        rw [ev] at q1; cases q1
        exact ⟨_, e2, q2⟩
      · rw [List.getElem?_set_ne zl]
        exact I.ow l y hl (back e zl).1
    dis := fun l q y u a hl hq e1 e2 e3 e4 => by
      by_cases zl : i = l
      · by_cases zq : i = q
        · rw [← zl, ← zq]
        · subst zl
          rw [(self e1).2] at e3
          cases e3
          rw [List.getElem?_set_ne zq] at e4
          exact absurd (I.dis j q z u a hj hq ee (back e2 zq).1 ev e4) fun h => (back e2 zq).2 h.symm
      · by_cases zq : i = q
        · subst zq
          rw [(self e2).2] at e4
          cases e4
          rw [List.getElem?_set_ne zl] at e3
          exact absurd (I.dis l j y z a hl hj (back e1 zl).1 ee e3 ev) (back e1 zl).2
        · rw [List.getElem?_set_ne zl] at e3
          rw [List.getElem?_set_ne zq] at e4
          exact I.dis l q y u a hl hq (back e1 zl).1 (back e2 zq).1 e3 e4 }
theorem pms_move (i j : Nat) (hi : i ∈ os) (hj : j ∈ os) (hij : i ≠ j) (hN : X.N.Nodup) (hy : X.N[i]? = some y) (hl : Loc X.env.scope y) (hNj : X.N[j]? = some x) (hv : Vis X.env.scope x := by first | exact Or.inl rfl | exact Or.inr (Or.inl rfl) | exact Or.inr (Or.inr rfl)) (hd : (x == ("__debug__" : Str)) = false := by decide) (hcd : (x == ("__classdict__" : Str)) = false := by decide)
    (hs : swapsWith (.Name x p) (some (.Name y p')) pos.line X.env = pure false := by rfl)
    (hf : X.fn y = true ∨ X.env.scope.names.lookup y = some .local := by first | exact .inl rfl | exact .inr rfl | assumption) : PMS X fr os os ol (.Assign [.Name y p'] (.Name x p) pos) (cMove i j) := by
  refine ⟨_, ps_set hN hy hl (pe_var (i := j) hNj hv hd hcd) hs hf, fun C G σ H env d D I w => ?_⟩
  cases h : env[j]? with
  | none => simp only [cMove, h] at w; exact w.elim
  | some q =>
    cases q with
    | none => simp only [cMove, h] at w; exact w.elim
    | some z =>
      simp only [cMove, h] at w
      obtain ⟨v, e1, ov⟩ := I.ow j z hj h
      exact ⟨v, e1, w _ H G (Le.refl G) (I.move hi hj hij h e1)⟩
/-- y = x.pop(0), x one's own list -/
def cPop0 (i j : Nat) : Ev → M Ctl := fun env => match env[j]? with
  | some (some (.lst (z :: zs))) => pure (.nx ((env.set j (some (.lst zs))).set i (some z)))
  | _ => bad
theorem pms_pop0 (i j : Nat) {q4 : Pos} {c0 : Nat} (hi : i ∉ os) (hj : j ∈ os) (hN : X.N.Nodup) (hy : X.N[i]? = some y) (hl : Loc X.env.scope y) (hNj : X.N[j]? = some x) (hv : Vis X.env.scope x := by first | exact Or.inl rfl | exact Or.inr (Or.inl rfl) | exact Or.inr (Or.inr rfl)) (hd : (x == ("__debug__" : Str)) = false := by decide) (hcd : (x == ("__classdict__" : Str)) = false := by decide)
    (hbase : attributeBase (.Name x p2) "pop" X.env (eval (.Name x p2) X.env) = eval (.Name x p2) X.env := by rfl)
    (hfew : ((backTo p3 (starEach [.Constant (.int 0) c0 q4] X.env)).all (fun x => !x.1) && (backToKw p3 (keywordEach [] X.env)).all (fun x => x.1.isSome) && decide ([Expr.Constant (.int 0) c0 q4].length + ([] : List Keyword).length + (if ([] : List Keyword).isEmpty then 0 else 1) < 30)) = true := by rfl)
    (hline : (apos.endLine == p3.line) = true := by rfl) (hst : starEach [.Constant (.int 0) c0 q4] X.env = (false, eval (.Constant (.int 0) c0 q4) X.env) :: starEach [] X.env := by rfl) (hplain : (backTo p3 (starEach [] X.env)).any (·.1) = false := by rfl)
    (hs : swapsWith (.Call (.Attribute (.Name x p2) "pop" apos) [.Constant (.int 0) c0 q4] [] p3) (some (.Name y p')) pos.line X.env = pure false := by rfl)
    (hf : X.fn y = true ∨ X.env.scope.names.lookup y = some .local := by first | exact .inl rfl | exact .inr rfl | assumption) :
    PMS X fr os os ol (.Assign [.Name y p'] (.Call (.Attribute (.Name x p2) "pop" apos) [.Constant (.int 0) c0 q4] [] p3) pos) (cPop0 i j) := by
  refine ⟨_, ps_set hN hy hl (pe_bm PySem.F.plainAttrs_list PySem.F.slot_list_pop PySem.F.type_list_pop mt_popAt (pe_var (i := j) hNj hv hd hcd) (pa_cons pe_int pa_nil hst) hbase hfew hline hst hplain) hs hf, fun C G σ H env d D I w => ?_⟩
  cases h : env[j]? with
  | none => simp only [cPop0, h] at w; exact w.elim
  | some q =>
    cases q with
    | none => simp only [cPop0, h] at w; exact w.elim
    | some z =>
      cases z with
      | lst zs =>
        cases zs with
        | nil => simp only [cPop0, h] at w; exact w.elim
        | cons z zs =>
          simp only [cPop0, h] at w
          obtain ⟨a, e2, oa⟩ := I.owA hj h (fun z => nomatch z)
          obtain ⟨vs, h1, rv⟩ := oa.o
          cases rv with
          | @cons v vs _ _ r1 r2 =>
            have I1 := I.mut (x' := .lst zs) hj h e2 oa (o := .lst vs) ⟨_, upd_same, r2⟩
            exact ⟨_, e2, .inl ⟨rfl, _, .inl (.inl h1)⟩, a, _, 0, 0, v, rfl, rfl, h1, by decide, by decide, (ixN_seq (by rw [List.length_cons]; unfold ixN; rw [if_pos (Int.le_refl 0), if_pos (by omega)]; rfl)).1, rfl, w _ _ G (Le.refl G) (I1.set_sh hi r1)⟩
      | _ => simp only [cPop0, h] at w; exact w.elim

/-- o.m(..) with arguments -/
def tMethN (K : PySem.W.Frag) (mg : Str → Option Value) (c mt : Str) (n : Nat) (mf : List D → M D) (to : TE) (ta : TA) : TE := fun σ H Q => ∀ Cc, mg c = some (.ref Cc) → tMeth Cc mt (spM K mg n mf) [] E0 to ta σ H Q
theorem pm_m {pl : Sem Bool} (h : HasM X.prog X.w X.K X.mg X.base k cn mt n mf) (hr : Room k X.A) (ho : PM X os o to mo) (ha : PMA X os (e :: es) tas ms)
    (hst : starEach (e :: es) X.env = (false, eval e X.env) :: starEach es X.env := by rfl) (hpl : (backTo pos (starEach es X.env)).any (·.1) = false := by rfl)
    (ht : eval (.Call (.Attribute o mt apos) (e :: es) [] pos) X.env = (do
      let ov ← eval o X.env
      standAt apos.atName
      let (f, first) ← holding [ov] (getMethod ov mt pl)
      callWith pos f first (backTo pos (starEach (e :: es) X.env)) (backToKw pos (keywordEach [] X.env))) := by rfl) :
    PM X os (.Call (.Attribute o mt apos) (e :: es) [] pos) (tMethN X.K X.mg cn mt n mf to tas) (eMeth cn mt n mf mo ms) := by
  obtain ⟨Cc, f, fd, ps, hC, hc, hm, F, hb⟩ := h
  have q := pm_meth (os := os) (pl := pl) (apos := apos) (pos := pos) hC ho hc hm F hr hb ha hst hpl ht
  exact ⟨⟨fun pins s σ H Q I w => q.p.run pins s σ H Q I (w Cc hC)⟩, fun C G σ H env d Q I w C' hC' => by
    rw [hC] at hC'
    cases hC'
    exact q.s C G σ H env d Q I w⟩

theorem pmf_non {b : Nat} : PMF X os (.Constant .none b pos) (tC .non) (eC .non) := ⟨pe_non, fun C G σ H env d Q I w => w _ H G (Aft.refl I.st I.sub) .non⟩
/-- xs * n -/
def dRep : D → D → M D
  | .lst xs, .int n => guardB (decide (-(2 ^ 63) ≤ n ∧ n < 2 ^ 63 ∧ xs.length * n.toNat ≤ sizeLine)) (pure (.lst (List.replicate n.toNat xs).flatten))
  | _, _ => bad
theorem Reps.rep {K : PySem.W.Frag} {mg : Str → Option Value} {S : SA} {G : Hp} {vs : List V} {ds : List D} (r : Reps K mg S G vs ds) : ∀ n : Nat, Reps K mg S G (List.replicate n vs).flatten (List.replicate n ds).flatten
  | 0 => .nil
  | n + 1 => by
    rw [List.replicate_succ, List.replicate_succ, List.flatten_cons, List.flatten_cons]
    exact r.append (Reps.rep r n)
theorem pmf_mulL (ha : PMB X os a ta ma) (hb : PMB X os b tb mb) : PMF X os (.BinOp a .Mult b pos) (tOp rRep ta tb) (eBin dRep ma mb) :=
  pmf_bin op_rep (fun S G H d x y dx dy Q st sb rx ry w => by
    unfold dRep at w
    split at w
    · rw [Wp_guard] at w
      obtain ⟨a, vs, e1, h1, r1, n1⟩ := rx.lst' sb
      have hl := of_decide_eq_true w.1
      exact ⟨a, _, vs, e1, ry.int, h1, hl.1, hl.2.1, by rw [r1.length]; exact hl.2.2, fun p hp => w.2 _ _ _ (Aft.newF st sb hp) (.lst hp (sb.free hp) upd_same (r1.rep _))⟩
    · exact w.elim) ha hb
/-! ### a keyword-only parameter left out -/
def DfKw (K : PySem.W.Frag) (mg : Str → Option Value) (x : Str) (st : Stmt) (nm : Str) (d : D) : Prop := ∃ f fd v, FunD K x x (defArgs st) (defBody st) (defScope st) [] [(nm, v)] f fd ∧ mg x = some (.ref f) ∧ ∀ S G, Rep K mg S G v d
def HasD (sp : Nat → (List D → M D) → Sp) (P : Program) (w : World) (K : PySem.W.Frag) (mg : Str → Option Value) (base : Heap) (k : Nat) (x : Str) (n : Nat) (m : List D → M D) (d : D) : Prop :=
  ∃ f fd ps v u, FnOk P w K mg base CX0 k f fd ps (sp (n + 1) m) ∧ mg x = some (.ref f) ∧ PySem.W.keepIn K (.ref f) = true ∧ Vals [v] [u] ∧ Binds K fd ps [u] ∧ ∀ S G, Rep K mg S G v d
def eCallD (n : Nat) (dd : D) (f : List D → M D) (ms : Ev → M (List D)) : Ev → M D := fun env => ms env >>= fun xs => guardB (xs.length == n) (f (xs ++ [dd]))
theorem pm_fD {dd : D} (h : HasD (spM X.K X.mg) X.prog X.w X.K X.mg X.base k x n mf dd) (hr : Room k X.A) (hg : Gl X x) (ha : PMA X os (e :: es) tas ms)
    (hdb : (x == ("__debug__" : Str)) = false := by decide) (he : starEach (e :: es) X.env = (false, eval e X.env) :: starEach es X.env := by rfl) (hpl : (backTo pos (starEach es X.env)).any (·.1) = false := by rfl) :
    ∃ te, PM X os (.Call (.Name x p) (e :: es) [] pos) te (eCallD n dd mf ms) := by
  obtain ⟨f, fd, ps, v, u, F, hm, hk, hv, hb, hr2⟩ := h
  refine ⟨_, pe_call F hr hg hm hk hb hv pass0 ha.p hdb he hpl, fun C G σ H env d Q I w => ?_⟩
  unfold eCallD at w
  rw [Wp_bind] at w
  refine ha.s C G σ H env d _ I (w.imp fun xs d1 w1 vs H1 G1 A1 r1 => ?_)
  rw [Wp_guard] at w1
  have hl : xs.length = n := by simpa using w1.1
  show spM X.K X.mg (n + 1) mf (vs ++ [v]) H1 Q E0
  exact ⟨by rw [List.length_append, r1.length, hl]; rfl, C.S, G1, xs ++ [dd], d1, A1.st, A1.sub, r1.append (.one (hr2 _ _)), w1.2.imp fun y d2 kk v H' G' A2 r2 => kk v H' G' (A1.trans A2) r2⟩
theorem pmf_fD {dd : D} (h : HasD (spN X.K X.mg) X.prog X.w X.K X.mg X.base k x n mf dd) (hr : Room k X.A) (hg : Gl X x) (ha : PMA X os (e :: es) tas ms)
    (hdb : (x == ("__debug__" : Str)) = false := by decide) (he : starEach (e :: es) X.env = (false, eval e X.env) :: starEach es X.env := by rfl) (hpl : (backTo pos (starEach es X.env)).any (·.1) = false := by rfl) :
    ∃ te, PMF X os (.Call (.Name x p) (e :: es) [] pos) te (eCallD n dd mf ms) := by
  obtain ⟨f, fd, ps, v, u, F, hm, hk, hv, hb, hr2⟩ := h
  refine ⟨_, pe_call F hr hg hm hk hb hv pass0 ha.p hdb he hpl, fun C G σ H env d Q I w => ?_⟩
  unfold eCallD at w
  rw [Wp_bind] at w
  refine ha.s C G σ H env d _ I (w.imp fun xs d1 w1 vs H1 G1 A1 r1 => ?_)
  rw [Wp_guard] at w1
  have hl : xs.length = n := by simpa using w1.1
  show spN X.K X.mg (n + 1) mf (vs ++ [v]) H1 Q E0
  exact ⟨by rw [List.length_append, r1.length, hl]; rfl, C.S, G1, xs ++ [dd], d1, A1.st, A1.sub, r1.append (.one (hr2 _ _)), w1.2.imp fun y d2 kk v H' G' A2 r2 => kk v H' G' (A1.trans A2) (RepN.pull A1 r2)⟩
end
section
variable {P : Program} {w : World} {K : PySem.W.Frag} {mg : Str → Option Value} {base : Heap} {x nm : Str} {st : Stmt} {ps : List Str} {k n : Nat} {m : List D → M D} {d : D}
theorem DfKw.df (h : DfKw K mg x st nm d) : Df K mg x st := by
  obtain ⟨f, fd, v, F, hm, _⟩ := h
  obtain ⟨oc, od, dV, kV, doc, pm, an, cdv, ct, osl, e1, e2, e3, e4, e5⟩ := F.ex
  rcases e4 with ⟨_, e⟩ | ⟨e, _⟩
  · subst e
    exact ⟨f, fd, ⟨⟨oc, od, kV, doc, pm, an, cdv, ct, osl, e1, e2, e3⟩, F.kp⟩, hm⟩
  · exact absurd rfl e
theorem HasC.posD {sp : Nat → (List D → M D) → Sp} (h : HasC sp P w K mg base k x st ps (n + 1) m) (q : DfKw K mg x st nm d) (hn : n + 1 = ps.length)
    (hb : ∀ (D : Addr) (doc pm : Value) (an : Option Addr) (cdv ct : Value) (us ks : List Value), us.length = n → ks.length = 1 →
      KwChain D ([nm].zip ks) (bindArgs (PySem.W.fnOf x x (defArgs st) (defBody st) (defScope st) .none (.ref D) doc pm an cdv ct) ⟨us, []⟩) (ps.zip (us ++ ks))) : HasD sp P w K mg base k x n m d := by
  obtain ⟨f, fd, F, hm, ok⟩ := h
  obtain ⟨f', fd', v, FD, hm', hv⟩ := q
  rw [hm] at hm'
  cases hm'
  have ef : fd = fd' := by
    obtain ⟨_, _, _, _, _, _, _, _, _, _, l1, _⟩ := F.ex
    obtain ⟨_, _, _, _, _, _, _, _, _, _, _, l2, _⟩ := FD.ex
    rw [l1] at l2
    cases l2
    rfl
  subst ef
  obtain ⟨us, r, b⟩ := FD.binds0 n (by exact fun z => nomatch z) hn hb
  cases r with
  | cons r1 r2 =>
    cases r2
    exact ⟨f, fd, ps, v, _, ok, hm, F.kp, .cons r1 .nil, b, hv⟩
end
end Mir
end
section
set_option Elab.async false
set_option linter.all false
set_option maxRecDepth 100000
set_option maxHeartbeats 1000000
/-! Mir, part Tb: lists of one's own, lent to a def that looks at them. -/
namespace Mir
open PySem PySem.Spec PyProof.Rows L2
mutual
def unl : D → Bool
  | .non => true
  | .bl _ => true
  | .int _ => true
  | .str _ => true
  | .lst xs => unls xs
  | .ro xs => unls xs
  | .tup xs => unls xs
  | .dic kvs => unlk kvs
  | .obj _ fs => unlf fs
  | .st => true
  | .ln _ => false
  | .plt xs => unls xs
def unls : List D → Bool
  | [] => true
  | x :: xs => unl x && unls xs
def unlk : List (Key × D) → Bool
  | [] => true
  | (_, x) :: xs => unl x && unlk xs
def unlf : List (Str × D) → Bool
  | [] => true
  | (_, x) :: xs => unl x && unlf xs
end
section
variable {K : PySem.W.Frag} {mg : Str → Option Value} {S S' : SA} {G : Hp}
mutual
theorem Rep.unlend (es : S'.s = S.s) : ∀ {v : V} {d : D}, Rep K mg S' G v d → unl d = true → Rep K mg S G v d
  | _, _, .non, _ => .non
  | _, _, .bl b, _ => .bl b
  | _, _, .int i, _ => .int i
  | _, _, .str x, _ => .str x
  | _, _, .lst h r, u => .lst h (Reps.unlend es r (by rw [unl] at u; exact u))
  | _, _, .ro h r, u => .ro h (Reps.unlend es r (by rw [unl] at u; exact u))
  | _, _, .tup h r, u => .tup h (Reps.unlend es r (by rw [unl] at u; exact u))
  | _, _, .dic h r, u => .dic h (RepK.unlend es r (by rw [unl] at u; exact u))
  | _, _, .obj m h r, u => .obj m h (RepF.unlend es r (by rw [unl] at u; exact u))
  | _, _, .st, _ => by rw [es]; exact .st
  | _, _, .ln _ _, u => by rw [unl] at u; cases u
  | _, _, .plt h n r, u => .plt h n (Reps.unlend es r (by rw [unl] at u; exact u))
theorem Reps.unlend (es : S'.s = S.s) : ∀ {vs : List V} {ds : List D}, Reps K mg S' G vs ds → unls ds = true → Reps K mg S G vs ds
  | _, _, .nil, _ => .nil
  | _, _, .cons a b, u => by
    rw [unls, Bool.and_eq_true] at u
    exact .cons (Rep.unlend es a u.1) (Reps.unlend es b u.2)
theorem RepK.unlend (es : S'.s = S.s) : ∀ {vs : List (Key × V)} {ds : List (Key × D)}, RepK K mg S' G vs ds → unlk ds = true → RepK K mg S G vs ds
  | _, _, .nil, _ => .nil
  | _, _, .cons a b, u => by
    rw [unlk, Bool.and_eq_true] at u
    exact .cons (Rep.unlend es a u.1) (RepK.unlend es b u.2)
theorem RepF.unlend (es : S'.s = S.s) : ∀ {vs : List (Str × V)} {ds : List (Str × D)}, RepF K mg S' G vs ds → unlf ds = true → RepF K mg S G vs ds
  | _, _, .nil, _ => .nil
  | _, _, .cons a b, u => by
    rw [unlf, Bool.and_eq_true] at u
    exact .cons (Rep.unlend es a u.1) (RepF.unlend es b u.2)
end
mutual
theorem Rep.lend (es : S'.s = S.s) (hl : ∀ b vs, S.L b = some vs → S'.L b = some vs) : ∀ {v : V} {d : D}, Rep K mg S G v d → Rep K mg S' G v d
  | _, _, .non => .non
  | _, _, .bl b => .bl b
  | _, _, .int i => .int i
  | _, _, .str x => .str x
  | _, _, .lst h r => .lst h (Reps.lend es hl r)
  | _, _, .ro h r => .ro h (Reps.lend es hl r)
  | _, _, .tup h r => .tup h (Reps.lend es hl r)
  | _, _, .dic h r => .dic h (RepK.lend es hl r)
  | _, _, .obj m h r => .obj m h (RepF.lend es hl r)
  | _, _, .st => by rw [← es]; exact .st
  | _, _, .ln h r => .ln (hl _ _ h) (Reps.lend es hl r)
  | _, _, .plt h n r => .plt h n (Reps.lend es hl r)
theorem Reps.lend (es : S'.s = S.s) (hl : ∀ b vs, S.L b = some vs → S'.L b = some vs) : ∀ {vs : List V} {ds : List D}, Reps K mg S G vs ds → Reps K mg S' G vs ds
  | _, _, .nil => .nil
  | _, _, .cons a b => .cons (Rep.lend es hl a) (Reps.lend es hl b)
theorem RepK.lend (es : S'.s = S.s) (hl : ∀ b vs, S.L b = some vs → S'.L b = some vs) : ∀ {vs : List (Key × V)} {ds : List (Key × D)}, RepK K mg S G vs ds → RepK K mg S' G vs ds
  | _, _, .nil => .nil
  | _, _, .cons a b => .cons (Rep.lend es hl a) (RepK.lend es hl b)
theorem RepF.lend (es : S'.s = S.s) (hl : ∀ b vs, S.L b = some vs → S'.L b = some vs) : ∀ {vs : List (Str × V)} {ds : List (Str × D)}, RepF K mg S G vs ds → RepF K mg S' G vs ds
  | _, _, .nil => .nil
  | _, _, .cons a b => .cons (Rep.lend es hl a) (RepF.lend es hl b)
end
end
/-- S' lends some more lists -/
structure Lend (S S' : SA) (G H : Hp) (d : Drw) : Prop where
  s : S'.s = S.s
  g : S'.g = S.g
  c : S'.c = S.c
  l : ∀ b vs, S.L b = some vs → S'.L b = some vs
  st : StR S' H d
  sub : Sub S' G H
section
variable {S S' : SA} {G H G' H' : Hp} {d d' : Drw}
theorem Lend.inS (h : Lend S S' G H d) {b : Addr} (n : inS S b) : Mir.inS S' b := by
  rcases n with e | e | e | e
  · exact .inl (e.trans h.s.symm)
  · exact .inr (.inl (e.trans h.g.symm))
  · exact .inr (.inr (.inl (e.trans h.c.symm)))
  · obtain ⟨vs, ev⟩ := Option.ne_none_iff_exists'.mp e
    exact Mir.inS.l (h.l b vs ev)
theorem Lend.back (h : Lend S S' G H d) {d2 : Drw} (st : StR S' H' d2) : StR S H' d2 where
  s := by
    have e := st.s
    have q : stK S' d2 = stK S d2 := by unfold stK; rw [h.g, h.c]
    rw [h.s, q] at e
    exact e
  g := by rw [← h.g]; exact st.g
  c := by rw [← h.c]; exact st.c
  gc := by rw [← h.g, ← h.c]; exact st.gc
  l := fun b vs e => by
    have q := st.l b vs (h.l b vs e)
    rw [h.s, h.g, h.c] at q
    exact q
theorem Lend.aft (h : Lend S S' G H d) (A : Aft S' G H G' H' d') : Aft S G H G' H' d' where
  hp := fun b o e n => by
    by_cases k : Mir.inS S' b
    · rcases k with k | k | k | k
      · exact absurd (.inl (k.trans h.s)) n
      · exact absurd (.inr (.inl (k.trans h.g))) n
      · exact absurd (.inr (.inr (.inl (k.trans h.c)))) n
      · obtain ⟨vs, ev⟩ := Option.ne_none_iff_exists'.mp k
        rw [(h.st.l b vs ev).1] at e
        rw [(A.st.l b vs ev).1]
        exact e
    · exact A.hp b o e k
  gm := A.gm
  gn := A.gn
  st := h.back A.st
  sub := fun b o e => ⟨(A.sub b o e).1, fun n => (A.sub b o e).2 (h.inS n)⟩
theorem Lend.refl (st : StR S H d) (sub : Sub S G H) : Lend S S G H d := ⟨rfl, rfl, rfl, fun _ _ e => e, st, sub⟩
def lendA (S : SA) (a : Addr) (vs : List V) : SA := { S with L := fun b => if b = a then some vs else S.L b }
theorem Lend.one {a : Addr} {vs : List V} (h : Lend S S' G H d) (n : ¬ Mir.inS S' a) (g : G a = none) (e : H a = some (.lst vs)) : Lend S (lendA S' a vs) G H d where
  s := h.s
  g := h.g
  c := h.c
  l := fun b ws q => by
    have q' := h.l b ws q
    show (if b = a then some vs else S'.L b) = some ws
    by_cases z : b = a
    · subst z; exact absurd (Mir.inS.l q') n
    · rw [if_neg z]; exact q'
  st := { s := h.st.s, g := h.st.g, c := h.st.c, gc := h.st.gc, l := fun b ws q => by
            have q : (if b = a then some vs else S'.L b) = some ws := q
            by_cases z : b = a
            · subst z
              rw [if_pos rfl] at q
              cases q
              exact ⟨e, fun z => n (.inl z), fun z => n (.inr (.inl z)), fun z => n (.inr (.inr (.inl z)))⟩
            · rw [if_neg z] at q
              exact h.st.l b ws q }
  sub := fun b o q => ⟨(h.sub b o q).1, fun k => by
    have z : b ≠ a := fun z => by subst z; rw [g] at q; cases q
    rcases k with k | k | k | k
    · exact (h.sub b o q).2 (.inl k)
    · exact (h.sub b o q).2 (.inr (.inl k))
    · exact (h.sub b o q).2 (.inr (.inr (.inl k)))
    · have k : (if b = a then some vs else S'.L b) ≠ none := k
      rw [if_neg z] at k
      exact (h.sub b o q).2 (.inr (.inr (.inr k)))⟩
end
/-- arguments, some lent -/
structure PMAL (X : Cx) (os : List Nat) (es : List Expr) (ta : TA) (ms : Ev → M (List D)) : Prop where
  p : PA X es ta
  s : ∀ C G σ H env d Q, IM X.K X.mg C os env σ H G d → Wp (ms env d) (fun xs d' => ∀ vs H' G' S', Aft C.S G H G' H' d' → Lend C.S S' G' H' d' → (∀ b, ¬ inS C.S b → S'.L b ≠ none → ∃ i y, i ∈ os ∧ env[i]? = some (some y) ∧ σ[i]? = some (some (.ref b))) → Reps X.K X.mg S' G' vs xs → Q vs H') → ta σ H Q
def aLend (i : Nat) (ms : Ev → M (List D)) : Ev → M (List D) := fun env => match env[i]? with
  | some (some (.lst xs)) => ms env >>= fun r => pure (.ln xs :: r)
  | _ => bad
def eCallL (n : Nat) (f : List D → M D) (ms : Ev → M (List D)) : Ev → M D := fun env => ms env >>= fun xs => guardB (xs.length == n) (f xs >>= fun y => guardB (unl y) (pure y))
section
variable {X : Cx} {os : List Nat} {e : Expr} {es : List Expr} {te : TE} {ta : TA} {m : Ev → M D} {ms : Ev → M (List D)} {x : Str} {p pos : Pos} {k n : Nat} {mf : List D → M D}
theorem pal_nil : PMAL X os [] tNil aNil := ⟨pa_nil, fun C G σ H env d Q I w => w [] H G C.S (Aft.refl I.st I.sub) (Lend.refl I.st I.sub) (fun b n k => absurd (.inr (.inr (.inr k))) n) .nil⟩
theorem pal_cons (h : PM X os e te m) (hr : PMAL X os es ta ms) (he : starEach (e :: es) X.env = (false, eval e X.env) :: starEach es X.env := by rfl) : PMAL X os (e :: es) (tCons te ta) (aCons m ms) := by
  refine ⟨pa_cons h.p hr.p he, fun C G σ H env d Q I w => ?_⟩
  unfold aCons at w
  rw [Wp_bind] at w
  refine h.s C G σ H env d _ I (w.imp fun y d1 w1 v1 H1 G1 A1 r1 => ?_)
  rw [Wp_bind] at w1
  exact hr.s C G1 σ H1 env d1 _ (I.later A1) (w1.imp fun xs d2 w2 vs H2 G2 S2 A2 l2 n2 r2 => w2 (v1 :: vs) H2 G2 S2 (A1.trans A2) l2 n2 (.cons (Rep.lend l2.s l2.l (r1.mono A2.gm)) r2))
theorem pal_own (i : Nat) (hr : PMAL X os es ta ms) (hi : i ∈ os := by decide) (hN : X.N[i]? = some x := by rfl) (hv : Vis X.env.scope x := by first | exact Or.inl rfl | exact Or.inr (Or.inl rfl) | exact Or.inr (Or.inr rfl)) (hd : (x == ("__debug__" : Str)) = false := by decide)
    (hcd : (x == ("__classdict__" : Str)) = false := by decide) (he : starEach (.Name x p :: es) X.env = (false, eval (.Name x p) X.env) :: starEach es X.env := by rfl) : PMAL X os (.Name x p :: es) (tCons (tVar i) ta) (aLend i ms) := by
  refine ⟨pa_cons (pe_var hN hv hd hcd) hr.p he, fun C G σ H env d Q I w => ?_⟩
  cases ee : env[i]? with
  | none => simp only [aLend, ee] at w; exact w.elim
  | some q =>
    cases q with
    | none => simp only [aLend, ee] at w; exact w.elim
    | some z =>
      cases z with
      | lst xs =>
        simp only [aLend, ee] at w
        rw [Wp_bind] at w
        obtain ⟨a, e2, oa⟩ := I.owA hi ee (fun z => nomatch z)
        obtain ⟨us, h1, rv⟩ := oa.o
        refine ⟨_, e2, hr.s C G σ H env d _ I (w.imp fun ys d2 w2 vs H2 G2 S2 A2 l2 n2 r2 => ?_)⟩
        have h2 := A2.hp a _ h1 oa.n
        have g2 : G2 a = none := A2.gn a (by rw [h1]; exact fun z => nomatch z) oa.g
        by_cases k : inS S2 a
        · -- lent already
          rcases k with k | k | k | k
          · exact absurd (.inl (k.trans l2.s)) oa.n
          · exact absurd (.inr (.inl (k.trans l2.g))) oa.n
          · exact absurd (.inr (.inr (.inl (k.trans l2.c)))) oa.n
          · obtain ⟨ws, ew⟩ := Option.ne_none_iff_exists'.mp k
            have e3 := (l2.st.l a ws ew).1
            rw [h2] at e3
            cases e3
            exact w2 _ H2 G2 S2 A2 l2 n2 (.cons (.ln ew (Reps.lend l2.s l2.l (rv.mono A2.gm))) r2)
        · have l3 := l2.one k g2 h2
          have lm : ∀ b vs, S2.L b = some vs → (lendA S2 a us).L b = some vs := fun b vs q => by
            show (if b = a then some us else S2.L b) = some vs
            by_cases z : b = a
            · subst z; exact absurd (inS.l q) k
            · rw [if_neg z]; exact q
          refine w2 _ H2 G2 _ A2 l3 (fun b n q => ?_) (.cons (.ln (show (if a = a then some us else S2.L a) = some us from if_pos rfl) (Reps.lend l3.s l3.l (rv.mono A2.gm))) (Reps.lend (S := S2) (S' := lendA S2 a us) rfl lm r2))
          by_cases z : b = a
          · subst z
            exact ⟨i, _, hi, ee, e2⟩
          · have q : (if b = a then some us else S2.L b) ≠ none := q
            rw [if_neg z] at q
            exact n2 b n q
      | _ => simp only [aLend, ee] at w; exact w.elim
theorem pm_fL (h : Has X.prog X.w X.K X.mg X.base k x n mf) (hr : Room k X.A) (hg : Gl X x) (ha : PMAL X os (e :: es) ta ms)
    (hdb : (x == ("__debug__" : Str)) = false := by decide) (he : starEach (e :: es) X.env = (false, eval e X.env) :: starEach es X.env := by rfl) (hpl : (backTo pos (starEach es X.env)).any (·.1) = false := by rfl) :
    PM X os (.Call (.Name x p) (e :: es) [] pos) (tCall (spM X.K X.mg n mf) [] E0 ta) (eCallL n mf ms) := by
  obtain ⟨f, fd, ps, F, hm, hk, hb⟩ := h
  refine ⟨pe_call F hr hg hm hk hb .nil pass0 ha.p hdb he hpl, fun C G σ H env d Q I w => ?_⟩
  unfold eCallL at w
  rw [Wp_bind] at w
  refine ha.s C G σ H env d _ I (w.imp fun xs d1 w1 vs H1 G1 S1 A1 l1 n1 r1 => ?_)
  rw [Wp_guard] at w1
  have hl : xs.length = n := by simpa using w1.1
  show spM X.K X.mg n mf (vs ++ []) H1 Q E0
  rw [List.append_nil]
  have w2 := w1.2
  rw [Wp_bind] at w2
  refine ⟨by rw [r1.length]; exact hl, S1, G1, xs, d1, l1.st, l1.sub, r1, w2.imp fun y d2 kk v H' G' A2 r2 => ?_⟩
  rw [Wp_guard] at kk
  exact kk.2 v H' G' (A1.trans (l1.aft A2)) (Rep.unlend l1.s r2 kk.1)
end
end Mir
end
section
set_option Elab.async false
set_option linter.all false
set_option maxRecDepth 100000
set_option maxHeartbeats 1000000
/-! Mir, part Tc: tuples known to be plain (of an object's fields): tuple(xs), dict(t). -/
namespace Mir
open PySem PySem.Spec PyProof.Rows L2
section
variable {X : Cx}
/-- tuple(xs) of a list, the new tuple known to be plain -/
theorem call_tupleP : CallR X (.type "tuple") (fun xs H Q => ∃ p ys, xs = [.ref p] ∧ SqL X.K H p ys ∧ ∀ l o, H l = none → o.dict = none → Q (.ref l) (upd H l (.frz o (.tup ys)))) := fun pins s σ H xs us Q I r h => by
  obtain ⟨p, ys, ex, hs, q⟩ := h
  subst ex
  obtain ⟨u, eu, ru⟩ := vals1 r
  subst eu
  cases ru
  obtain ⟨its, rv, pl, hz⟩ := I.list hs
  refine call_tuple_list pl.isList (fun h' hk => ?_) (by rw [List.size_toArray, ← rv.length]; exact hz)
  have I1 : Inv X pins σ H { s with heap := h' } := I.kept (t' := s.toks) hk
  have I2 : Inv X pins σ (upd H h'.objs.size (.frz { cls := .type "tuple", data := .seq its.toArray } (.tup ys))) { s with heap := h'.push { cls := .type "tuple", data := .seq its.toArray } } :=
    I1.laid (t' := s.toks) (fun b o e => Heap.get?_push_of_some _ e) (Nat.le_refl _) (show ObjOk X.prog X.w _ _ _ (.frz _ (.tup ys)) from ⟨Heap.get?_push_size _ rfl, hz, its, rv, IsTup.new _ _⟩)
  exact ⟨.ref h'.objs.size, _, I2, rfl, q _ _ (I1.hok.fresh (Nat.le_refl _)) rfl⟩
theorem pairs_of2 {pins : List (Addr × Obj)} {σ : St} {H : Hp} {s : Shared} (I : Inv X pins σ H s) : ∀ {ps : List Addr} {kvs : List (Key × V)}, Paired (fun p kv => SqT X.K H p [kV kv.1, kv.2]) ps kvs →
    ∃ (prs : List (Key × Value)) (us : List (Value × Value)), KV kvs prs ∧ prs.length = ps.length ∧ us.length = ps.length ∧ ∀ (j : Nat) (k v : Value), us[j]? = some (k, v) → ∃ (b : Addr) (q : Key), ps[j]? = some b ∧ IsTup s.heap b #[k, v] ∧ prs[j]? = some (q, v) ∧ keyIs q k = true
  | _, _, .nil => ⟨[], [], .nil, rfl, rfl, fun j k v e => by simp at e⟩
  | _, _, .cons (a := p) (b := kv) h t => by
    obtain ⟨prs, us, r, hl, hl2, hp⟩ := pairs_of2 I t
    obtain ⟨its, rv, ht, _⟩ := I.tuple h
    obtain ⟨u, y, ei, ru, ry⟩ := vals2 rv
    subst ei
    refine ⟨(kv.1, y) :: prs, (u, y) :: us, .cons ⟨rfl, ry⟩ r, by rw [List.length_cons, List.length_cons, hl], by rw [List.length_cons, List.length_cons, hl2], fun j k v e => ?_⟩
    cases j with
    | zero =>
      have e' : (u, y) = (k, v) := Option.some.inj e
      cases e'
      exact ⟨p, kv.1, rfl, ht, rfl, kV_is (P := X.prog) (w := X.w) ru⟩
    | succ j =>
      obtain ⟨b, q, e1, e2, e3, e4⟩ := hp j k v (by simpa using e)
      exact ⟨b, q, by simpa using e1, e2, by simpa using e3, e4⟩
/-- dict(t) of a plain tuple of pairs -/
theorem call_dictT (hcalm : X.calm = true) : CallR X (.type "dict") (fun xs H Q => ∃ (a : Addr) (o : Obj) (ps : List Addr) (kvs : List (Key × V)), xs = [.ref a] ∧ H a = some (.frz o (.tup (ps.map V.ref))) ∧ o.dict = none ∧ Paired (fun p kv => SqT X.K H p [kV kv.1, kv.2]) ps kvs ∧
    ∀ p, H p = none → Q (.ref p) (upd H p (.dK (mergeK [] kvs)))) := by
  intro pins s σ H xs us Q I r q
  obtain ⟨a, o, ps, kvs, ex, hq, hd, hp, q⟩ := q
  subst ex
  obtain ⟨u, eu, rx⟩ := vals1 r
  subst eu
  cases rx
  obtain ⟨ho, hz, its, rv, o', ho', hc, n, hdat⟩ := (show ObjOk X.prog X.w H s.heap a (.frz o (.tup (ps.map V.ref))) from I.hok a _ hq)
  rw [ho] at ho'
  cases ho'
  have ei := refs_at rv
  subst ei
  rw [List.length_map] at hz
  obtain ⟨prs, us, rel, hl, hl2, hpr⟩ := pairs_of2 I hp
  refine PySem.call_dict_pairs (knd := mixKind X.prog X.w) (kvs := prs) (PairArg.tuple a (ps.map Value.ref).toArray (fun j => ps.getD j 0) us) (I.ok.hd hcalm) ⟨⟨o, n, ho, hc, hd, hdat⟩, by simp [hl2], fun j k v e => ?_⟩ ⟨by rw [hl, hl2], fun j k v e => ?_⟩ (by rw [hl2]; exact hz) fun h' tk hd' k => ?_
  · obtain ⟨b, qk, e1, e2, e3, e4⟩ := hpr j k v e
    have gd : ps.getD j 0 = b := by rw [List.getD_eq_getElem?_getD, e1]; rfl
    show (ps.map Value.ref).toArray[j]? = some (.ref (ps.getD j 0)) ∧ PairAt s.heap (ps.getD j 0) k v
    rw [gd]
    exact ⟨by simp [e1], .inl e2⟩
  · obtain ⟨b, qk, e1, e2, e3, e4⟩ := hpr j k v e
    exact ⟨qk, e3, e4⟩
  · have hm : (s.heap.objs.size == sysModules) = false := beq_eq_false_iff_ne.mpr (Nat.ne_of_gt I.big)
    have hlen : (mergeK [] kvs).length ≤ sizeLine := by
      refine Nat.le_trans (length_mergeK kvs []) ?_
      rw [List.length_nil, Nat.zero_add, rel.length, hl]
      exact hz
    exact ⟨.ref s.heap.objs.size, upd H s.heap.objs.size (.dK (mergeK [] kvs)), I.laid (t' := tk) (fun b o e => k b o (by simp) e) (Nat.le_refl _) (show ObjOk X.prog X.w _ _ _ (.dK (mergeK [] kvs)) from ⟨hlen, hm, merged [] prs, KV.merge rel .nil, hd'⟩), rfl, q _ (I.hok.fresh (Nat.le_refl _))⟩
end
section
variable {X : Cx} {os : List Nat} {e : Expr} {te : TE} {m : Ev → M D} {pos p' : Pos}
def dTupleP : D → M D
  | .lst xs => pure (.plt xs)
  | _ => bad
theorem pm_tupleP (hg : Gl X "tuple") (hm : X.mg "tuple" = none) (ha : PMB X os e te m) (he : starEach [e] X.env = (false, eval e X.env) :: starEach [] X.env := by rfl) (hpl : (backTo pos (starEach [] X.env)).any (·.1) = false := by rfl) :
    PM X os (.Call (.Name "tuple" p') [e] [] pos) (tCB (fun xs H Q => ∃ p ys, xs = [.ref p] ∧ SqL X.K H p ys ∧ ∀ l o, H l = none → o.dict = none → Q (.ref l) (upd H l (.frz o (.tup ys)))) (tCons te tNil)) (eUn dTupleP m) :=
  pm_callT1 call_tupleP (fun S G H d x dx Q st sb rx w => by
    unfold dTupleP at w
    split at w
    · obtain ⟨a, vs, e1, h1, r1, n1⟩ := rx.lst' sb
      exact ⟨a, vs, by rw [e1], .inl (.inl h1), fun l o hl hd => w _ _ _ (Aft.new st sb hl) (.plt upd_same hd (r1.mono (Le.new (sb.free hl))))⟩
    · exact w.elim) hg hm (by decide +kernel) ha (by decide) (by decide) he hpl
def dDictT : D → M D
  | .plt xs => match pairsD xs with
    | some kd => pure (.dic (mergeD [] kd))
    | none => bad
  | _ => bad
theorem pmf_dictT (hc : X.calm = true) (hg : Gl X "dict") (hm : X.mg "dict" = none) (ha : PMB X os e te m) (he : starEach [e] X.env = (false, eval e X.env) :: starEach [] X.env := by rfl) (hpl : (backTo pos (starEach [] X.env)).any (·.1) = false := by rfl) :
    PMF X os (.Call (.Name "dict" p') [e] [] pos) (tCB (fun xs H Q => ∃ (a : Addr) (o : Obj) (ps : List Addr) (kvs : List (Key × V)), xs = [.ref a] ∧ H a = some (.frz o (.tup (ps.map V.ref))) ∧ o.dict = none ∧ Paired (fun p kv => SqT X.K H p [kV kv.1, kv.2]) ps kvs ∧
    ∀ p, H p = none → Q (.ref p) (upd H p (.dK (mergeK [] kvs)))) (tCons te tNil)) (eUn dDictT m) :=
  pmf_callT1 (call_dictT hc) (fun S G H d x dx Q st sb rx w => by
    cases dx with
    | plt xs =>
      cases hz : pairsD xs with
      | none => simp only [dDictT, hz] at w; exact w.elim
      | some kd =>
        simp only [dDictT, hz] at w
        cases rx with
        | of r =>
          cases r with
          | plt hq hn rr =>
            obtain ⟨ps, kvs, e2, e3, e4⟩ := pairs_rep sb.le _ _ _ rr hz
            subst e2
            exact ⟨_, _, ps, kvs, rfl, sb.le _ _ hq, hn, e3, fun p hp => w _ _ _ (Aft.newF st sb hp) (.dic hp (sb.free hp) upd_same (RepK.merge _ _ _ _ e4 .nil))⟩
    | _ => exact w.elim) hg hm (by decide +kernel) ha (by decide) (by decide) he hpl
end
end Mir
end
section
set_option Elab.async false
set_option linter.all false
set_option maxRecDepth 100000
set_option maxHeartbeats 1000000
/-! Mir, part Q: the rules with the readings hidden (most printed by wrap.py). -/
namespace Mir
open PySem PySem.Spec PyProof.Rows L2
def QM (X : Cx) (os : List Nat) (e : Expr) (m : Ev → M D) : Prop := ∃ te, PM X os e te m
def QMB (X : Cx) (os : List Nat) (e : Expr) (m : Ev → M D) : Prop := ∃ te, PMB X os e te m
def QMF (X : Cx) (os : List Nat) (e : Expr) (m : Ev → M D) : Prop := ∃ te, PMF X os e te m
def QMX (f : Bool) (X : Cx) (os : List Nat) (e : Expr) (m : Ev → M D) : Prop := ∃ te, PMX f X os e te m
def QMT (X : Cx) (os : List Nat) (e : Expr) (m : Ev → M Bool) : Prop := ∃ te, PMT X os e te m
def QMW (X : Cx) (os : List Nat) (e : Expr) (m : Ev → M Bool) : Prop := ∃ te, PMW X os e te m
def QMA (X : Cx) (os : List Nat) (es : List Expr) (m : Ev → M (List D)) : Prop := ∃ te, PMA X os es te m
def QMAL (X : Cx) (os : List Nat) (es : List Expr) (m : Ev → M (List D)) : Prop := ∃ te, PMAL X os es te m
def QMO (X : Cx) (os : List Nat) (e : Option Expr) (m : Ev → M (Option Int)) : Prop := ∃ te, PMO X os e te m
def QMI (X : Cx) (os : List Nat) (tg e : Expr) (m : Ev → M (List D)) : Prop := ∃ te, PMI X os tg e te m
def QMG (X : Cx) (os tv : List Nat) (e : Expr) (t : Ev → D → Option Ev) : Prop := ∃ g, PMG X os tv e g t
def QMGs (X : Cx) (os tv : List Nat) (es : List Expr) (t : Ev → List D → Option Ev) : Prop := ∃ g, PMGs X os tv es g t
def QMTs (X : Cx) (os : List Nat) (es : List Expr) (m : Ev → M Bool) : Prop := ∃ te, PMTs X os es te m
def QMP (X : Cx) (os : List Nat) (pos : Pos) (keys : List (Option Expr)) (values : List Expr) (m : Ev → M (List (Key × D))) : Prop := ∃ trs, PMP X os pos keys values trs m
def QMK (X : Cx) (os : List Nat) (kws : List Keyword) (m : Ev → M (List D)) : Prop := ∃ tk, PMK X os kws tk m
def QMC (X : Cx) (os : List Nat) (e : Expr) (m : Ev → M D) : Prop := ∃ te, PMC X os e te m
theorem QMC.e {X : Cx} {os : List Nat} {e : Expr} {m : Ev → M D} (h : QMC X os e m) : QM X os e m := let ⟨_, h⟩ := h; ⟨_, h.ev⟩
theorem QMC.t {X : Cx} {os : List Nat} {e : Expr} {m : Ev → M D} (h : QMC X os e m) : QMT X os e (tB' m) := let ⟨_, h⟩ := h; ⟨_, h.ts⟩
section
variable {X : Cx} {os : List Nat} {e a b c : Expr} {te ta tb : TE} {m ma mb : Ev → M D} {pos p' : Pos}
theorem QM.toB (h : QM X os e m) : QMB X os e m := by
  obtain ⟨_, h⟩ := h
  exact ⟨_, PM.toB (h := h)⟩
theorem QMF.toB (h : QMF X os e m) : QMB X os e m := by
  obtain ⟨_, h⟩ := h
  exact ⟨_, PMF.toB (h := h)⟩
theorem QMF.toE (h : QMF X os e m) : QM X os e m := by
  obtain ⟨_, h⟩ := h
  exact ⟨_, PMF.toE (h := h)⟩
theorem q_var (i : Nat) {x : Str} {pos : Pos} (ho : i ∉ os := by decide) (hN : X.N[i]? = some x := by rfl) (hv : Vis X.env.scope x := by first | exact Or.inl rfl | exact Or.inr (Or.inl rfl) | exact Or.inr (Or.inr rfl)) (hd : (x == ("__debug__" : Str)) = false := by decide) (hcd : (x == ("__classdict__" : Str)) = false := by decide) : QM X os (.Name x pos) (eVar i) := by
  exact ⟨_, pm_var (i := i) (ho := ho) (hN := hN) (hv := hv) (hd := hd) (hcd := hcd)⟩
theorem qb_var (i : Nat) {x : Str} {pos : Pos} (hN : X.N[i]? = some x := by rfl) (hv : Vis X.env.scope x := by first | exact Or.inl rfl | exact Or.inr (Or.inl rfl) | exact Or.inr (Or.inr rfl)) (hd : (x == ("__debug__" : Str)) = false := by decide) (hcd : (x == ("__classdict__" : Str)) = false := by decide) : QMB X os (.Name x pos) (eVar i) := by
  exact ⟨_, pmb_var (i := i) (hN := hN) (hv := hv) (hd := hd) (hcd := hcd)⟩
theorem q_int {i : Int} {j pos} : QM X os (.Constant (.int i) j pos) (eC (.int i)) := by
  exact ⟨_, pm_int ⟩
theorem q_bl {b j pos} : QM X os (.Constant (.bool b) j pos) (eC (.bl b)) := by
  exact ⟨_, pm_bl ⟩
theorem q_non {j pos} : QM X os (.Constant .none j pos) (eC .non) := by
  exact ⟨_, pm_non ⟩
theorem q_str {x j pos} : QM X os (.Constant (.str x) j pos) (eC (.str x)) := by
  exact ⟨_, pm_str ⟩
theorem q_glob {x : Str} {v : V} {u : Value} {d : D} (hg : Gl X x) (hm : X.mg x = some u) (r : RelV v u) (hr : ∀ S G, Rep X.K X.mg S G v d) (hd : (x == ("__debug__" : Str)) = false := by decide) : QM X os (.Name x pos) (eC d) := by
  exact ⟨_, pm_glob (hg := hg) (hm := hm) (r := r) (hr := hr) (hd := hd)⟩
theorem q_bin {op : Operator} {r : R2} {g : D → D → M D} (ho : OpR X (binaryOp op) r) (hr : SimR X.K X.mg r g) (ha : QMB X os a ma) (hb : QMB X os b mb) : QM X os (.BinOp a op b pos) (eBin g ma mb) := by
  obtain ⟨_, ha⟩ := ha
  obtain ⟨_, hb⟩ := hb
  exact ⟨_, pm_bin (ho := ho) (hr := hr) (ha := ha) (hb := hb)⟩
theorem qf_bin {op : Operator} {r : R2} {g : D → D → M D} (ho : OpR X (binaryOp op) r) (hr : SimRF X.K X.mg r g) (ha : QMB X os a ma) (hb : QMB X os b mb) : QMF X os (.BinOp a op b pos) (eBin g ma mb) := by
  obtain ⟨_, ha⟩ := ha
  obtain ⟨_, hb⟩ := hb
  exact ⟨_, pmf_bin (ho := ho) (hr := hr) (ha := ha) (hb := hb)⟩
theorem qc_of {op : CmpOp} (pc : PC X op a b te) (hm : behindInMarks op b = false) (s : ∀ C, SimE X.K X.mg C os te m) : QMC X os (.Compare a [op] [b] pos) m := by
  exact ⟨_, pmc_of (pc := pc) (hm := hm) (s := s)⟩
theorem q_cmp {op : CmpOp} {r : R2} {g : D → D → M D} (ho : OpR X (compareOp op) r) (hr : SimR X.K X.mg r g) (ha : QMB X os a ma) (hb : QMB X os b mb) (hm : behindInMarks op b = false) : QMC X os (.Compare a [op] [b] pos) (eBin g ma mb) := by
  obtain ⟨_, ha⟩ := ha
  obtain ⟨_, hb⟩ := hb
  exact ⟨_, pm_cmp (ho := ho) (hr := hr) (ha := ha) (hb := hb) (hm := hm)⟩
theorem q_sub (ha : QMB X os a ma) (hb : QMB X os b mb) : QM X os (.BinOp a .Sub b pos) (eBin dSub ma mb) := by
  obtain ⟨_, ha⟩ := ha
  obtain ⟨_, hb⟩ := hb
  exact ⟨_, pm_sub (ha := ha) (hb := hb)⟩
theorem q_mul (ha : QMB X os a ma) (hb : QMB X os b mb) : QM X os (.BinOp a .Mult b pos) (eBin dMul ma mb) := by
  obtain ⟨_, ha⟩ := ha
  obtain ⟨_, hb⟩ := hb
  exact ⟨_, pm_mul (ha := ha) (hb := hb)⟩
theorem q_mod (ha : QMB X os a ma) (hb : QMB X os b mb) : QM X os (.BinOp a .Mod b pos) (eBin dMod ma mb) := by
  obtain ⟨_, ha⟩ := ha
  obtain ⟨_, hb⟩ := hb
  exact ⟨_, pm_mod (ha := ha) (hb := hb)⟩
theorem q_div (ha : QMB X os a ma) (hb : QMB X os b mb) : QM X os (.BinOp a .FloorDiv b pos) (eBin dDiv ma mb) := by
  obtain ⟨_, ha⟩ := ha
  obtain ⟨_, hb⟩ := hb
  exact ⟨_, pm_div (ha := ha) (hb := hb)⟩
theorem q_pow (ha : QMB X os a ma) (hb : QMB X os b mb) : QM X os (.BinOp a .Pow b pos) (eBin dPow ma mb) := by
  obtain ⟨_, ha⟩ := ha
  obtain ⟨_, hb⟩ := hb
  exact ⟨_, pm_pow (ha := ha) (hb := hb)⟩
theorem q_lt (ha : QMB X os a ma) (hb : QMB X os b mb) : QMC X os (.Compare a [.Lt] [b] pos) (eBin dLt ma mb) := by
  obtain ⟨_, ha⟩ := ha
  obtain ⟨_, hb⟩ := hb
  exact ⟨_, pm_lt (ha := ha) (hb := hb)⟩
theorem q_le (ha : QMB X os a ma) (hb : QMB X os b mb) : QMC X os (.Compare a [.LtE] [b] pos) (eBin dLe ma mb) := by
  obtain ⟨_, ha⟩ := ha
  obtain ⟨_, hb⟩ := hb
  exact ⟨_, pm_le (ha := ha) (hb := hb)⟩
theorem q_gt (ha : QMB X os a ma) (hb : QMB X os b mb) : QMC X os (.Compare a [.Gt] [b] pos) (eBin dGt ma mb) := by
  obtain ⟨_, ha⟩ := ha
  obtain ⟨_, hb⟩ := hb
  exact ⟨_, pm_gt (ha := ha) (hb := hb)⟩
theorem q_ge (ha : QMB X os a ma) (hb : QMB X os b mb) : QMC X os (.Compare a [.GtE] [b] pos) (eBin dGe ma mb) := by
  obtain ⟨_, ha⟩ := ha
  obtain ⟨_, hb⟩ := hb
  exact ⟨_, pm_ge (ha := ha) (hb := hb)⟩
theorem q_neg (ha : QMB X os a ma) : QM X os (.UnaryOp .USub a pos) (eNeg ma) := by
  obtain ⟨_, ha⟩ := ha
  exact ⟨_, pm_neg (ha := ha)⟩
theorem qt_val (h : QM X os e m) (he : ∀ whole, isTrue e X.env whole = (do let v ← whole; standAt e.pos; holding [v] (truthy v)) := by intro _; rfl) : QMT X os e (tB' m) := by
  obtain ⟨_, h⟩ := h
  exact ⟨_, pmt_val (h := h) (he := he)⟩
variable {rest : List Expr} {ua ub tt : TT} {na nb : Ev → M Bool}
theorem QMW.t (h : QMW X os e na) : QMT X os e na := by
  obtain ⟨_, h⟩ := h
  exact ⟨_, PMW.t (h := h)⟩
theorem qw_and1 (h : QMT X os a na) : QMW X os (.BoolOp .And [a] pos) na := by
  obtain ⟨_, h⟩ := h
  exact ⟨_, pmw_and1 (h := h)⟩
theorem qw_or1 (h : QMT X os a na) : QMW X os (.BoolOp .Or [a] pos) na := by
  obtain ⟨_, h⟩ := h
  exact ⟨_, pmw_or1 (h := h)⟩
theorem qw_and (ha : QMT X os a na) (hb : QMW X os (.BoolOp .And (b :: rest) pos) nb) : QMW X os (.BoolOp .And (a :: b :: rest) pos) (tAnd' na nb) := by
  obtain ⟨_, ha⟩ := ha
  obtain ⟨_, hb⟩ := hb
  exact ⟨_, pmw_and (ha := ha) (hb := hb)⟩
theorem qw_or (ha : QMT X os a na) (hb : QMW X os (.BoolOp .Or (b :: rest) pos) nb) : QMW X os (.BoolOp .Or (a :: b :: rest) pos) (tOr' na nb) := by
  obtain ⟨_, ha⟩ := ha
  obtain ⟨_, hb⟩ := hb
  exact ⟨_, pmw_or (ha := ha) (hb := hb)⟩
theorem qt_not (ha : QMT X os a na) : QMT X os (.UnaryOp .Not a pos) (tNot' na) := by
  obtain ⟨_, ha⟩ := ha
  exact ⟨_, pmt_not (ha := ha)⟩
theorem q_one {op} (h : QM X os a ma) : QM X os (.BoolOp op [a] pos) ma := by
  obtain ⟨_, h⟩ := h
  exact ⟨_, pm_one (h := h)⟩
theorem q_and (ha : QM X os a ma) (hb : QM X os (.BoolOp .And (b :: rest) pos) mb) : QM X os (.BoolOp .And (a :: b :: rest) pos) (eAnd ma mb) := by
  obtain ⟨_, ha⟩ := ha
  obtain ⟨_, hb⟩ := hb
  exact ⟨_, pm_and (ha := ha) (hb := hb)⟩
theorem q_or (ha : QM X os a ma) (hb : QM X os (.BoolOp .Or (b :: rest) pos) mb) : QM X os (.BoolOp .Or (a :: b :: rest) pos) (eOr ma mb) := by
  obtain ⟨_, ha⟩ := ha
  obtain ⟨_, hb⟩ := hb
  exact ⟨_, pm_or (ha := ha) (hb := hb)⟩
theorem q_not (ha : QM X os a ma) : QM X os (.UnaryOp .Not a pos) (eNot ma) := by
  obtain ⟨_, ha⟩ := ha
  exact ⟨_, pm_not (ha := ha)⟩
theorem q_if (hc : QMT X os c na) (ha : QM X os a ma) (hb : QM X os b mb) : QM X os (.IfExp c a b pos) (eIf na ma mb) := by
  obtain ⟨_, hc⟩ := hc
  obtain ⟨_, ha⟩ := ha
  obtain ⟨_, hb⟩ := hb
  exact ⟨_, pm_if (hc := hc) (ha := ha) (hb := hb)⟩
end
section
variable {X : Cx} {os : List Nat} {e : Expr} {es : List Expr} {te : TE} {ta : TA} {m : Ev → M D} {ms : Ev → M (List D)} {pos : Pos}
theorem qa_nil  : QMA X os [] aNil := by
  exact ⟨_, pma_nil ⟩
theorem qa_cons (ha : QM X os e m) (hr : QMA X os es ms) (hs : starEach (e :: es) X.env = (false, eval e X.env) :: starEach es X.env := by rfl) : QMA X os (e :: es) (aCons m ms) := by
  obtain ⟨_, ha⟩ := ha
  obtain ⟨_, hr⟩ := hr
  exact ⟨_, pma_cons (ha := ha) (hr := hr) (hs := hs)⟩
end
section
variable {X : Cx} {os : List Nat} {e : Expr} {es : List Expr} {ta : TA} {m : Ev → M D} {ms : Ev → M (List D)} {pos : Pos}
theorem q_tup {x1} (h : QMA X os es ms) : QM X os (.Tuple es x1 pos) (eTup ms) := by
  obtain ⟨_, h⟩ := h
  exact ⟨_, pm_tup (h := h)⟩
theorem qf_lst (h : QMA X os es ms) : QMF X os (.List es pos) (eLst ms) := by
  obtain ⟨_, h⟩ := h
  exact ⟨_, pmf_lst (h := h)⟩
end
section
variable (K : PySem.W.Frag) (mg : Str → Option Value)
end
section
variable {X : Cx} {os : List Nat} {e o : Expr} {es : List Expr} {te to : TE} {ta : TA} {m mo : Ev → M D} {ms : Ev → M (List D)} {x c mt : Str} {p pos apos : Pos} {k n : Nat} {f : Addr} {fd : FuncData} {ps : List Str} {mf : List D → M D} {Cc : Addr}
end
section
variable {X : Cx} {os : List Nat} {e o : Expr} {es : List Expr} {te to : TE} {ta : TA} {m mo : Ev → M D} {ms : Ev → M (List D)} {x c mt : Str} {p pos apos : Pos} {k n : Nat} {f : Addr} {fd : FuncData} {ps : List Str} {mf : List D → M D} {Cc : Addr}
theorem q_fld {fl : Str} (ho : QM X os o mo) (hC : X.mg c = some (.ref Cc)) (hc : Cls X.K Cc) (hn : NoAttr X.K Cc fl) (hb : attributeBase o fl X.env (eval o X.env) = eval o X.env := by rfl) : QM X os (.Attribute o fl pos) (eFld c fl mo) := by
  obtain ⟨_, ho⟩ := ho
  exact ⟨_, pm_fld (ho := ho) (hC := hC) (hc := hc) (hn := hn) (hb := hb)⟩
theorem q_meth {pl : Sem Bool} (hC : X.mg c = some (.ref Cc)) (ho : QM X os o mo) (hc : Cls X.K Cc) (hm : Meth X.K Cc mt f) (F : FnOk X.prog X.w X.K X.mg X.base CX0 k f fd ps (spM X.K X.mg n mf)) (hr : Room k X.A) (hb : Binds X.K fd ps []) (ha : QMA X os (e :: es) ms) (hst : starEach (e :: es) X.env = (false, eval e X.env) :: starEach es X.env := by rfl) (hpl : (backTo pos (starEach es X.env)).any (·.1) = false := by rfl) (ht : eval (.Call (.Attribute o mt apos) (e :: es) [] pos) X.env = (do
      let ov ← eval o X.env
      standAt apos.atName
      let (f, first) ← holding [ov] (getMethod ov mt pl)
      callWith pos f first (backTo pos (starEach (e :: es) X.env)) (backToKw pos (keywordEach [] X.env))) := by rfl) : QM X os (.Call (.Attribute o mt apos) (e :: es) [] pos) (eMeth c mt n mf mo ms) := by
  obtain ⟨_, ho⟩ := ho
  obtain ⟨_, ha⟩ := ha
  exact ⟨_, pm_meth (hC := hC) (ho := ho) (hc := hc) (hm := hm) (F := F) (hr := hr) (hb := hb) (ha := ha) (hst := hst) (hpl := hpl) (ht := ht)⟩
theorem q_meth0 {pl : Sem Bool} (hC : X.mg c = some (.ref Cc)) (ho : QM X os o mo) (hc : Cls X.K Cc) (hm : Meth X.K Cc mt f) (F : FnOk X.prog X.w X.K X.mg X.base CX0 k f fd ps (spM X.K X.mg n mf)) (hr : Room k X.A) (hb : Binds X.K fd ps []) (ht : eval (.Call (.Attribute o mt apos) [] [] pos) X.env = (do
      let ov ← eval o X.env
      standAt apos.atName
      let (f, first) ← holding [ov] (getMethod ov mt pl)
      callWith pos f first (backTo pos (starEach [] X.env)) (backToKw pos (keywordEach [] X.env))) := by rfl) : QM X os (.Call (.Attribute o mt apos) [] [] pos) (eMeth c mt n mf mo aNil) := by
  obtain ⟨_, ho⟩ := ho
  exact ⟨_, pm_meth0 (hC := hC) (ho := ho) (hc := hc) (hm := hm) (F := F) (hr := hr) (hb := hb) (ht := ht)⟩
theorem qf_meth0 {pl : Sem Bool} (hC : X.mg c = some (.ref Cc)) (ho : QM X os o mo) (hc : Cls X.K Cc) (hm : Meth X.K Cc mt f) (F : FnOk X.prog X.w X.K X.mg X.base CX0 k f fd ps (spN X.K X.mg n mf)) (hr : Room k X.A) (hb : Binds X.K fd ps []) (ht : eval (.Call (.Attribute o mt apos) [] [] pos) X.env = (do
      let ov ← eval o X.env
      standAt apos.atName
      let (f, first) ← holding [ov] (getMethod ov mt pl)
      callWith pos f first (backTo pos (starEach [] X.env)) (backToKw pos (keywordEach [] X.env))) := by rfl) : QMF X os (.Call (.Attribute o mt apos) [] [] pos) (eMeth c mt n mf mo aNil) := by
  obtain ⟨_, ho⟩ := ho
  exact ⟨_, pmf_meth0 (hC := hC) (ho := ho) (hc := hc) (hm := hm) (F := F) (hr := hr) (hb := hb) (ht := ht)⟩
end
section
variable {X : Cx} {fr : Bool} {os os' o2 ol : List Nat} {e c : Expr} {es : List Expr} {te : TE} {tt : TT} {m : Ev → M D} {n : Ev → M Bool} {ms : Ev → M (List D)} {pos : Pos} {st : Stmt} {rest a b : List Stmt} {ma mb : Ev → M Ctl}
theorem qs_ret (h : QM X os e m) : PMS X false os os' ol (.Return (some e) pos) (cRet m) := by
  obtain ⟨_, h⟩ := h
  exact pms_ret (h := h)
theorem qs_retF (h : QMF X os e m) : PMS X true os os' ol (.Return (some e) pos) (cRet m) := by
  obtain ⟨_, h⟩ := h
  exact pms_retF (h := h)
theorem qs_drop (h : QM X os e m) (hs : swapsWith e none pos.line X.env = pure false := by rfl) : PMS X fr os os ol (.Expr e pos) (cDrop m) := by
  obtain ⟨_, h⟩ := h
  exact pms_drop (h := h) (hs := hs)
end
section
variable {K : PySem.W.Frag} {mg : Str → Option Value} {C : Ct} {os : List Nat} {env : Ev} {σ : St} {G H G' H' : Hp} {d d' : Drw} {v : V} {x : D} {i : Nat}
end
section
variable {X : Cx} {fr : Bool} {os os' ol : List Nat} {e c tg iter : Expr} {es : List Expr} {te : TE} {ta : TA} {tt : TT} {m : Ev → M D} {n : Ev → M Bool} {pos p' : Pos} {st : Stmt} {body : List Stmt} {mb : Ev → M Ctl} {y : Str}
theorem qs_set (i : Nat) (hi : i ∉ os) (hN : X.N.Nodup) (hy : X.N[i]? = some y) (hl : Loc X.env.scope y) (h : QM X os e m) (hs : swapsWith e (some (.Name y p')) pos.line X.env = pure false := by rfl) (hf : X.fn y = true ∨ X.env.scope.names.lookup y = some .local := by first | exact .inl rfl | exact .inr rfl | assumption) : PMS X fr os os ol (.Assign [.Name y p'] e pos) (cSet i m) := by
  obtain ⟨_, h⟩ := h
  exact pms_set (i := i) (hi := hi) (hN := hN) (hy := hy) (hl := hl) (h := h) (hs := hs) (hf := hf)
theorem qs_setN (i : Nat) (hi : i ∈ os) (hN : X.N.Nodup) (hy : X.N[i]? = some y) (hl : Loc X.env.scope y) (h : QMF X os e m) (hs : swapsWith e (some (.Name y p')) pos.line X.env = pure false := by rfl) (hf : X.fn y = true ∨ X.env.scope.names.lookup y = some .local := by first | exact .inl rfl | exact .inr rfl | assumption) : PMS X fr os os ol (.Assign [.Name y p'] e pos) (cSet i m) := by
  obtain ⟨_, h⟩ := h
  exact pms_setN (i := i) (hi := hi) (hN := hN) (hy := hy) (hl := hl) (h := h) (hs := hs) (hf := hf)
theorem qg_name (i : Nat) (hi : i ∉ os) (hN : X.N.Nodup) (hy : X.N[i]? = some y) (hl : Loc X.env.scope y) (hf : X.fn y = true ∨ X.env.scope.names.lookup y = some .local := by first | exact .inl rfl | exact .inr rfl | assumption) : QMG X os [i] (.Name y pos) (gN i) := by
  exact ⟨_, pmg_name (i := i) (hi := hi) (hN := hN) (hy := hy) (hl := hl) (hf := hf)⟩
theorem qgs_nil  : QMGs X os [] [] gsNil := by
  exact ⟨_, pmgs_nil ⟩
variable {tv tw : List Nat} {g1 : TG} {g2 : TGs} {t : Ev → D → Option Ev} {u : Ev → List D → Option Ev}
theorem qgs_cons (h1 : QMG X os tv e t) (h2 : QMGs X os tw es u) (hs : (assignEach (e :: es) X.env).map (·.2) = assign e X.env :: (assignEach es X.env).map (·.2) := by rfl) : QMGs X os (tv ++ tw) (e :: es) (gsCons t u) := by
  obtain ⟨_, h1⟩ := h1
  obtain ⟨_, h2⟩ := h2
  exact ⟨_, pmgs_cons (h1 := h1) (h2 := h2) (hs := hs)⟩
theorem qg_tup {k n : Nat} (hc : X.calm = true) (h : QMGs X os tv es u) (hlen : ∀ env xs e, u env xs = some e → xs.length = n) (hn : (assignEach es X.env).length = n := by rfl) (hst : (assignEach es X.env).findIdx? (·.1) = none := by rfl) : QMG X os tv (.Tuple es k pos) (gT u) := by
  obtain ⟨_, h⟩ := h
  exact ⟨_, pmg_tup (hc := hc) (h := h) (hlen := hlen) (hn := hn) (hst := hst)⟩
theorem qi_seq (h : QM X os e m) : QMI X os tg e (iOf m) := by
  obtain ⟨_, h⟩ := h
  exact ⟨_, pmi_seq (h := h)⟩
theorem qi_range1 {a : Expr} {ms : Ev → M (List D)} (hg : Gl X "range") (hm : X.mg "range" = none) (ha : QMA X os [a] ms) (hs : starEach [a] X.env = [(false, eval a X.env)] := by rfl) (h1 : ∀ env d xs d', ms env d = .ok xs d' → xs.length = 1) : QMI X os tg (.Call (.Name "range" p') [a] [] pos) (iRange ms) := by
  obtain ⟨_, ha⟩ := ha
  exact ⟨_, pmi_range1 (hg := hg) (hm := hm) (ha := ha) (hs := hs) (h1 := h1)⟩
theorem qi_range2 {a b : Expr} {ms : Ev → M (List D)} (hg : Gl X "range") (hm : X.mg "range" = none) (ha : QMA X os [a, b] ms) (hs : starEach [a, b] X.env = [(false, eval a X.env), (false, eval b X.env)] := by rfl) (hs2 : starEach [b] X.env = [(false, eval b X.env)] := by rfl) (h1 : ∀ env d xs d', ms env d = .ok xs d' → xs.length = 2) : QMI X os tg (.Call (.Name "range" p') [a, b] [] pos) (iRange ms) := by
  obtain ⟨_, ha⟩ := ha
  exact ⟨_, pmi_range2 (hg := hg) (hm := hm) (ha := ha) (hs := hs) (hs2 := hs2) (h1 := h1)⟩
theorem qts_nil  : QMTs X os [] nYes := by
  exact ⟨_, pmts_nil ⟩
theorem qts_one {c : Expr} {n : Ev → M Bool} (h : QMT X os c n) : QMTs X os [c] n := by
  obtain ⟨_, h⟩ := h
  exact ⟨_, pmts_one (h := h)⟩
variable {elt : Expr} {ifs : List Expr} {scope : Scope} {mi : Ev → M (List D)} {tv : List Nat} {t : Ev → D → Option Ev} {me : Ev → M D} {wi : TI} {g : TG}
end
section
variable {P : Program} {w : World} {K : PySem.W.Frag} {mg : Str → Option Value} {base : Heap}
end
section
end
section
variable {K : PySem.W.Frag} {mg : Str → Option Value} {S : SA} {G H : Hp}
section
end
end
section
variable {X : Cx} {os : List Nat} {e a b c : Expr} {es : List Expr} {te ta tb tc : TE} {tas : TA} {m ma mb mc : Ev → M D} {ms : Ev → M (List D)} {pos p' : Pos} {k : Nat} {x : Str}
theorem q_eq (hr : Room k X.A) (ha : QMB X os a ma) (hb : QMB X os b mb) : QMC X os (.Compare a [.Eq] [b] pos) (eBin dEq ma mb) := by
  obtain ⟨_, ha⟩ := ha
  obtain ⟨_, hb⟩ := hb
  exact ⟨_, pm_eq (hr := hr) (ha := ha) (hb := hb)⟩
theorem q_ne (hr : Room k X.A) (ha : QMB X os a ma) (hb : QMB X os b mb) : QMC X os (.Compare a [.NotEq] [b] pos) (eBin dNe ma mb) := by
  obtain ⟨_, ha⟩ := ha
  obtain ⟨_, hb⟩ := hb
  exact ⟨_, pm_ne (hr := hr) (ha := ha) (hb := hb)⟩
theorem q_isN (ha : QMB X os a ma) (hb : QMB X os b mb) : QMC X os (.Compare a [.Is] [b] pos) (eBin (dIsN false) ma mb) := by
  obtain ⟨_, ha⟩ := ha
  obtain ⟨_, hb⟩ := hb
  exact ⟨_, pm_isN (ha := ha) (hb := hb)⟩
theorem q_notN (ha : QMB X os a ma) (hb : QMB X os b mb) : QMC X os (.Compare a [.IsNot] [b] pos) (eBin (dIsN true) ma mb) := by
  obtain ⟨_, ha⟩ := ha
  obtain ⟨_, hb⟩ := hb
  exact ⟨_, pm_notN (ha := ha) (hb := hb)⟩
theorem q_isB (ha : QMB X os a ma) (hb : QMB X os b mb) : QMC X os (.Compare a [.Is] [b] pos) (eBin dIsB ma mb) := by
  obtain ⟨_, ha⟩ := ha
  obtain ⟨_, hb⟩ := hb
  exact ⟨_, pm_isB (ha := ha) (hb := hb)⟩
theorem q_add (ha : QMB X os a ma) (hb : QMB X os b mb) : QM X os (.BinOp a .Add b pos) (eBin dAdd ma mb) := by
  obtain ⟨_, ha⟩ := ha
  obtain ⟨_, hb⟩ := hb
  exact ⟨_, pm_add (ha := ha) (hb := hb)⟩
theorem qf_cat (ha : QMB X os a ma) (hb : QMB X os b mb) : QMF X os (.BinOp a .Add b pos) (eBin dCat ma mb) := by
  obtain ⟨_, ha⟩ := ha
  obtain ⟨_, hb⟩ := hb
  exact ⟨_, pmf_cat (ha := ha) (hb := hb)⟩
theorem q_call1 {id : String} {r : List V → Hp → VK → Prop} {g : D → M D} (hc : CallR X (.builtin id) r) (hs : SimC X.K X.mg r g) (hg : Gl X x) (hm : X.mg x = none) (hv : bootBuiltins x = some (.builtin id)) (ha : QMB X os e m) (hn : x ≠ "__name__" := by decide) (hdb : (x == ("__debug__" : Str)) = false := by decide) (he : starEach [e] X.env = (false, eval e X.env) :: starEach [] X.env := by rfl) (hpl : (backTo pos (starEach [] X.env)).any (·.1) = false := by rfl) : QM X os (.Call (.Name x p') [e] [] pos) (eUn g m) := by
  obtain ⟨_, ha⟩ := ha
  exact ⟨_, pm_call1 (hc := hc) (hs := hs) (hg := hg) (hm := hm) (hv := hv) (ha := ha) (hn := hn) (hdb := hdb) (he := he) (hpl := hpl)⟩
theorem q_callT1 {T : String} {r : List V → Hp → VK → Prop} {g : D → M D} (hc : CallR X (.type T) r) (hs : SimC X.K X.mg r g) (hg : Gl X x) (hm : X.mg x = none) (hv : bootBuiltins x = some (.type T)) (ha : QMB X os e m) (hn : x ≠ "__name__" := by decide) (hdb : (x == ("__debug__" : Str)) = false := by decide) (he : starEach [e] X.env = (false, eval e X.env) :: starEach [] X.env := by rfl) (hpl : (backTo pos (starEach [] X.env)).any (·.1) = false := by rfl) : QM X os (.Call (.Name x p') [e] [] pos) (eUn g m) := by
  obtain ⟨_, ha⟩ := ha
  exact ⟨_, pm_callT1 (hc := hc) (hs := hs) (hg := hg) (hm := hm) (hv := hv) (ha := ha) (hn := hn) (hdb := hdb) (he := he) (hpl := hpl)⟩
theorem qf_callT1 {T : String} {r : List V → Hp → VK → Prop} {g : D → M D} (hc : CallR X (.type T) r) (hs : SimCF X.K X.mg r g) (hg : Gl X x) (hm : X.mg x = none) (hv : bootBuiltins x = some (.type T)) (ha : QMB X os e m) (hn : x ≠ "__name__" := by decide) (hdb : (x == ("__debug__" : Str)) = false := by decide) (he : starEach [e] X.env = (false, eval e X.env) :: starEach [] X.env := by rfl) (hpl : (backTo pos (starEach [] X.env)).any (·.1) = false := by rfl) : QMF X os (.Call (.Name x p') [e] [] pos) (eUn g m) := by
  obtain ⟨_, ha⟩ := ha
  exact ⟨_, pmf_callT1 (hc := hc) (hs := hs) (hg := hg) (hm := hm) (hv := hv) (ha := ha) (hn := hn) (hdb := hdb) (he := he) (hpl := hpl)⟩
theorem q_len (hg : Gl X "len") (hm : X.mg "len" = none) (ha : QMB X os e m) (he : starEach [e] X.env = (false, eval e X.env) :: starEach [] X.env := by rfl) (hpl : (backTo pos (starEach [] X.env)).any (·.1) = false := by rfl) : QM X os (.Call (.Name "len" p') [e] [] pos) (eUn dLen m) := by
  obtain ⟨_, ha⟩ := ha
  exact ⟨_, pm_len (hg := hg) (hm := hm) (ha := ha) (he := he) (hpl := hpl)⟩
theorem q_abs (hg : Gl X "abs") (hm : X.mg "abs" = none) (ha : QMB X os e m) (he : starEach [e] X.env = (false, eval e X.env) :: starEach [] X.env := by rfl) (hpl : (backTo pos (starEach [] X.env)).any (·.1) = false := by rfl) : QM X os (.Call (.Name "abs" p') [e] [] pos) (eUn dAbs m) := by
  obtain ⟨_, ha⟩ := ha
  exact ⟨_, pm_abs (hg := hg) (hm := hm) (ha := ha) (he := he) (hpl := hpl)⟩
theorem q_intOf (hg : Gl X "int") (hm : X.mg "int" = none) (ha : QMB X os e m) (he : starEach [e] X.env = (false, eval e X.env) :: starEach [] X.env := by rfl) (hpl : (backTo pos (starEach [] X.env)).any (·.1) = false := by rfl) : QM X os (.Call (.Name "int" p') [e] [] pos) (eUn dInt m) := by
  obtain ⟨_, ha⟩ := ha
  exact ⟨_, pm_intOf (hg := hg) (hm := hm) (ha := ha) (he := he) (hpl := hpl)⟩
theorem qf_list (hg : Gl X "list") (hm : X.mg "list" = none) (ha : QMB X os e m) (he : starEach [e] X.env = (false, eval e X.env) :: starEach [] X.env := by rfl) (hpl : (backTo pos (starEach [] X.env)).any (·.1) = false := by rfl) : QMF X os (.Call (.Name "list" p') [e] [] pos) (eUn dList m) := by
  obtain ⟨_, ha⟩ := ha
  exact ⟨_, pmf_list (hg := hg) (hm := hm) (ha := ha) (he := he) (hpl := hpl)⟩
theorem q_tuple (hg : Gl X "tuple") (hm : X.mg "tuple" = none) (ha : QMB X os e m) (he : starEach [e] X.env = (false, eval e X.env) :: starEach [] X.env := by rfl) (hpl : (backTo pos (starEach [] X.env)).any (·.1) = false := by rfl) : QM X os (.Call (.Name "tuple" p') [e] [] pos) (eUn dTuple m) := by
  obtain ⟨_, ha⟩ := ha
  exact ⟨_, pm_tuple (hg := hg) (hm := hm) (ha := ha) (he := he) (hpl := hpl)⟩
theorem q_all (hc : X.calm = true) (hg : Gl X "all") (hm : X.mg "all" = none) (ha : QMB X os e m) (he : starEach [e] X.env = (false, eval e X.env) :: starEach [] X.env := by rfl) (hpl : (backTo pos (starEach [] X.env)).any (·.1) = false := by rfl) : QM X os (.Call (.Name "all" p') [e] [] pos) (eUn dAll m) := by
  obtain ⟨_, ha⟩ := ha
  exact ⟨_, pm_all (hc := hc) (hg := hg) (hm := hm) (ha := ha) (he := he) (hpl := hpl)⟩
theorem q_sum (hc : X.calm = true) (hg : Gl X "sum") (hm : X.mg "sum" = none) (ha : QMB X os e m) (he : starEach [e] X.env = (false, eval e X.env) :: starEach [] X.env := by rfl) (hpl : (backTo pos (starEach [] X.env)).any (·.1) = false := by rfl) : QM X os (.Call (.Name "sum" p') [e] [] pos) (eUn dSum m) := by
  obtain ⟨_, ha⟩ := ha
  exact ⟨_, pm_sum (hc := hc) (hg := hg) (hm := hm) (ha := ha) (he := he) (hpl := hpl)⟩
end
section
variable {K : PySem.W.Frag} {mg : Str → Option Value} {S : SA} {G H : Hp}
end
section
variable {X : Cx} {fr : Bool} {os os' ol : List Nat} {e a b c : Expr} {es : List Expr} {te ta tb tc : TE} {tas : TA} {m ma mb mc : Ev → M D} {ms : Ev → M (List D)} {pos p' : Pos} {k : Nat} {x y : Str}
theorem q_ix (ha : QMB X os a ma) (hb : QMB X os b mb) (hs : PlainIx b := by exact fun _ _ => rfl) : QM X os (.Subscript a b pos) (eBin dIx ma mb) := by
  obtain ⟨_, ha⟩ := ha
  obtain ⟨_, hb⟩ := hb
  exact ⟨_, pm_ix (ha := ha) (hb := hb) (hs := hs)⟩
theorem qo_none  : QMO X os none oNone := by
  exact ⟨_, pmo_none ⟩
theorem qo_some (h : QMB X os e m) : QMO X os (some e) (oSome m) := by
  obtain ⟨_, h⟩ := h
  exact ⟨_, pmo_some (h := h)⟩
variable {lo hi : Option Expr} {tl th : TO} {ml mh : Ev → M (Option Int)} {p2 : Pos}
theorem q_sl (ha : QMB X os a ma) (hl : QMO X os lo ml) (hh : QMO X os hi mh) : QM X os (.Subscript a (.Slice lo hi none p2) pos) (eSl ma ml mh) := by
  obtain ⟨_, ha⟩ := ha
  obtain ⟨_, hl⟩ := hl
  obtain ⟨_, hh⟩ := hh
  exact ⟨_, pm_sl (ha := ha) (hl := hl) (hh := hh)⟩
theorem qf_sl (ha : QMB X os a ma) (hl : QMO X os lo ml) (hh : QMO X os hi mh) : QMF X os (.Subscript a (.Slice lo hi none p2) pos) (eSlL ma ml mh) := by
  obtain ⟨_, ha⟩ := ha
  obtain ⟨_, hl⟩ := hl
  obtain ⟨_, hh⟩ := hh
  exact ⟨_, pmf_sl (ha := ha) (hl := hl) (hh := hh)⟩
theorem qf_rev {kk : Nat} {p1 p3 : Pos} (ha : QMB X os a ma) : QMF X os (.Subscript a (.Slice none none (some (.UnaryOp .USub (.Constant (.int 1) kk p1) p2)) p3) pos) (eUn dRev ma) := by
  obtain ⟨_, ha⟩ := ha
  exact ⟨_, pmf_rev (ha := ha)⟩
theorem q_inS (ha : QMB X os a ma) (hb : QMB X os b mb) (hm : behindInMarks .In b = false := by rfl) : QMC X os (.Compare a [.In] [b] pos) (eBin (dInS false) ma mb) := by
  obtain ⟨_, ha⟩ := ha
  obtain ⟨_, hb⟩ := hb
  exact ⟨_, pm_inS (ha := ha) (hb := hb) (hm := hm)⟩
theorem q_notInS (ha : QMB X os a ma) (hb : QMB X os b mb) (hm : behindInMarks .NotIn b = false := by rfl) : QMC X os (.Compare a [.NotIn] [b] pos) (eBin (dInS true) ma mb) := by
  obtain ⟨_, ha⟩ := ha
  obtain ⟨_, hb⟩ := hb
  exact ⟨_, pm_notInS (ha := ha) (hb := hb) (hm := hm)⟩
theorem q_inT (ha : QMB X os a ma) (hb : QMB X os b mb) (hm : behindInMarks .In b = false := by rfl) : QMC X os (.Compare a [.In] [b] pos) (eBin (dInT false) ma mb) := by
  obtain ⟨_, ha⟩ := ha
  obtain ⟨_, hb⟩ := hb
  exact ⟨_, pm_inT (ha := ha) (hb := hb) (hm := hm)⟩
theorem q_isi {T : Str} {n : String} (g : D → Bool) (hk : ∀ x t, tyN x = some t → kitB t n = some (g x)) (hg : Gl X "isinstance") (hm : X.mg "isinstance" = none) (gT : Gl X T) (mT : X.mg T = none) (hT : bootBuiltins T = some (.type n)) (ha : QMB X os a ma) {pT : Pos} (hn : T ≠ "__name__" := by decide) (hd : (T == ("__debug__" : Str)) = false := by decide) (he : starEach [a, .Name T pT] X.env = (false, eval a X.env) :: starEach [.Name T pT] X.env := by rfl) (he2 : starEach [.Name T pT] X.env = (false, eval (.Name T pT) X.env) :: starEach [] X.env := by rfl) (hpl : (backTo pos (starEach [.Name T pT] X.env)).any (·.1) = false := by rfl) : QM X os (.Call (.Name "isinstance" p') [a, .Name T pT] [] pos) (eUn (dIsi g) ma) := by
  obtain ⟨_, ha⟩ := ha
  exact ⟨_, pm_isi (g := g) (hk := hk) (hg := hg) (hm := hm) (gT := gT) (mT := mT) (hT := hT) (ha := ha) (hn := hn) (hd := hd) (he := he) (he2 := he2) (hpl := hpl)⟩
theorem q_isi2 {T T2 : Str} {n n2 : String} (g g2 : D → Bool) (hk : ∀ x t, tyN x = some t → kitB t n = some (g x)) (hk2 : ∀ x t, tyN x = some t → kitB t n2 = some (g2 x)) (hg : Gl X "isinstance") (hm : X.mg "isinstance" = none) (gT : Gl X T) (mT : X.mg T = none) (hT : bootBuiltins T = some (.type n)) (gT2 : Gl X T2) (mT2 : X.mg T2 = none) (hT2 : bootBuiltins T2 = some (.type n2)) (ha : QMB X os a ma) {pT pT2 pU : Pos} {x1} (hn : T ≠ "__name__" := by decide) (hd : (T == ("__debug__" : Str)) = false := by decide) (hn2 : T2 ≠ "__name__" := by decide) (hd2 : (T2 == ("__debug__" : Str)) = false := by decide) (he : starEach [a, .Tuple [.Name T pT, .Name T2 pT2] x1 pU] X.env = (false, eval a X.env) :: starEach [.Tuple [.Name T pT, .Name T2 pT2] x1 pU] X.env := by rfl) (he2 : starEach [.Tuple [.Name T pT, .Name T2 pT2] x1 pU] X.env = (false, eval (.Tuple [.Name T pT, .Name T2 pT2] x1 pU) X.env) :: starEach [] X.env := by rfl) (he3 : starEach [.Name T pT, .Name T2 pT2] X.env = (false, eval (.Name T pT) X.env) :: starEach [.Name T2 pT2] X.env := by rfl) (he4 : starEach [.Name T2 pT2] X.env = (false, eval (.Name T2 pT2) X.env) :: starEach [] X.env := by rfl) (hpl : (backTo pos (starEach [.Tuple [.Name T pT, .Name T2 pT2] x1 pU] X.env)).any (·.1) = false := by rfl) : QM X os (.Call (.Name "isinstance" p') [a, .Tuple [.Name T pT, .Name T2 pT2] x1 pU] [] pos) (eUn (dIsi fun x => g x || g2 x) ma) := by
  obtain ⟨_, ha⟩ := ha
  exact ⟨_, pm_isi2 (g := g) (g2 := g2) (hk := hk) (hk2 := hk2) (hg := hg) (hm := hm) (gT := gT) (mT := mT) (hT := hT) (gT2 := gT2) (mT2 := mT2) (hT2 := hT2) (ha := ha) (hn := hn) (hd := hd) (hn2 := hn2) (hd2 := hd2) (he := he) (he2 := he2) (he3 := he3) (he4 := he4) (hpl := hpl)⟩
end
section
variable {K : PySem.W.Frag} {mg : Str → Option Value} {C : Ct} {os : List Nat} {env : Ev} {σ : St} {G H G' H' : Hp} {d d' : Drw} {v : V} {x x' : D} {i : Nat} {a : Addr}
end
section
variable {K : PySem.W.Frag} {mg : Str → Option Value} {S : SA} {G : Hp}
end
section
variable {X : Cx} {fr : Bool} {os os' ol : List Nat} {e a b c : Expr} {es : List Expr} {te ta tb tc : TE} {tas : TA} {m ma mb mc : Ev → M D} {ms : Ev → M (List D)} {pos p' p2 p3 : Pos} {k : Nat} {x y : Str}
theorem q_getD (hr : Room k X.A) (ha : QMB X os a ma) (hb : QMB X os b mb) (hs : NoSl b := by exact fun _ _ => rfl) : QM X os (.Subscript a b pos) (eBin dGetD ma mb) := by
  obtain ⟨_, ha⟩ := ha
  obtain ⟨_, hb⟩ := hb
  exact ⟨_, pm_getD (hr := hr) (ha := ha) (hb := hb) (hs := hs)⟩
theorem q_inD (hr : Room k X.A) (ha : QMB X os a ma) (hb : QMB X os b mb) (hm : behindInMarks .In b = false := by rfl) : QMC X os (.Compare a [.In] [b] pos) (eBin (dInD false) ma mb) := by
  obtain ⟨_, ha⟩ := ha
  obtain ⟨_, hb⟩ := hb
  exact ⟨_, pm_inD (hr := hr) (ha := ha) (hb := hb) (hm := hm)⟩
theorem q_notInD (hr : Room k X.A) (ha : QMB X os a ma) (hb : QMB X os b mb) (hm : behindInMarks .NotIn b = false := by rfl) : QMC X os (.Compare a [.NotIn] [b] pos) (eBin (dInD true) ma mb) := by
  obtain ⟨_, ha⟩ := ha
  obtain ⟨_, hb⟩ := hb
  exact ⟨_, pm_notInD (hr := hr) (ha := ha) (hb := hb) (hm := hm)⟩
theorem qf_dnew  : QMF X os (.Dict [] [] pos) (eC (.dic [])) := by
  exact ⟨_, pmf_dnew ⟩
theorem qs_app (i : Nat) (h : QM X os e m) (hi : i ∈ os := by decide) (hN : X.N[i]? = some x := by rfl) (hv : Vis X.env.scope x := by first | exact Or.inl rfl | exact Or.inr (Or.inl rfl) | exact Or.inr (Or.inr rfl)) (hd : (x == ("__debug__" : Str)) = false := by decide) (hcd : (x == ("__classdict__" : Str)) = false := by decide) (hbase : attributeBase (.Name x p2) "append" X.env (eval (.Name x p2) X.env) = eval (.Name x p2) X.env := by rfl) (hfew : ((backTo p3 (starEach [e] X.env)).all (fun x => !x.1) && (backToKw p3 (keywordEach [] X.env)).all (fun x => x.1.isSome) && decide ([e].length + ([] : List Keyword).length + (if ([] : List Keyword).isEmpty then 0 else 1) < 30)) = true := by rfl) (hline : (p'.endLine == p3.line) = true := by rfl) (hst : starEach [e] X.env = (false, eval e X.env) :: starEach [] X.env := by rfl) (hplain : (backTo p3 (starEach [] X.env)).any (·.1) = false := by rfl) (hs : swapsWith (.Call (.Attribute (.Name x p2) "append" p') [e] [] p3) none pos.line X.env = pure false := by rfl) : PMS X fr os os ol (.Expr (.Call (.Attribute (.Name x p2) "append" p') [e] [] p3) pos) (cApp i m) := by
  obtain ⟨_, h⟩ := h
  exact pms_app (i := i) (h := h) (hi := hi) (hN := hN) (hv := hv) (hd := hd) (hcd := hcd) (hbase := hbase) (hfew := hfew) (hline := hline) (hst := hst) (hplain := hplain) (hs := hs)
theorem qs_setL (i : Nat) (h : QM X os e m) (hj : QMB X os b mb) (hi : i ∈ os := by decide) (hN : X.N[i]? = some x := by rfl) (hv : Vis X.env.scope x := by first | exact Or.inl rfl | exact Or.inr (Or.inl rfl) | exact Or.inr (Or.inr rfl)) (hd : (x == ("__debug__" : Str)) = false := by decide) (hcd : (x == ("__classdict__" : Str)) = false := by decide) (ha : ∀ v, assign (.Subscript (.Name x p2) b p3) X.env v = (do
      let ov ← holding [v] (eval (.Name x p2) X.env)
      let iv ← holding [v, ov] (eval b X.env)
      standAt p3
      holding [v, ov, iv] (setItem ov iv v)
      release [v, ov, iv] []) := by intro _; rfl) (hs : swapsWithSole [.Subscript (.Name x p2) b p3] e pos.line X.env = pure false := by rfl) (hw : swappedStores [.Subscript (.Name x p2) b p3] e X.env = pure none := by rfl) (h1 : (assignEach [.Subscript (.Name x p2) b p3] X.env).map (·.2) = [assign (.Subscript (.Name x p2) b p3) X.env] := by rfl) : PMS X fr os os ol (.Assign [.Subscript (.Name x p2) b p3] e pos) (cSetL i mb m) := by
  obtain ⟨_, h⟩ := h
  obtain ⟨_, hj⟩ := hj
  exact pms_setL (i := i) (h := h) (hj := hj) (hi := hi) (hN := hN) (hv := hv) (hd := hd) (hcd := hcd) (ha := ha) (hs := hs) (hw := hw) (h1 := h1)
theorem qs_setD (i : Nat) (hr : Room k X.A) (h : QM X os e m) (hj : QMB X os b mb) (hi : i ∈ os := by decide) (hN : X.N[i]? = some x := by rfl) (hv : Vis X.env.scope x := by first | exact Or.inl rfl | exact Or.inr (Or.inl rfl) | exact Or.inr (Or.inr rfl)) (hd : (x == ("__debug__" : Str)) = false := by decide) (hcd : (x == ("__classdict__" : Str)) = false := by decide) (hs : swapsWith e (some (.Subscript (.Name x p2) b p3)) pos.line X.env = pure false := by rfl) : PMS X fr os os ol (.Assign [.Subscript (.Name x p2) b p3] e pos) (cSetD i mb m) := by
  obtain ⟨_, h⟩ := h
  obtain ⟨_, hj⟩ := hj
  exact pms_setD (i := i) (hr := hr) (h := h) (hj := hj) (hi := hi) (hN := hN) (hv := hv) (hd := hd) (hcd := hcd) (hs := hs)
theorem qs_augD (i : Nat) (hr : Room k X.A) (h : QM X os e m) (hj : QMB X os b mb) (hi : i ∈ os := by decide) (hN : X.N[i]? = some x := by rfl) (hv : Vis X.env.scope x := by first | exact Or.inl rfl | exact Or.inr (Or.inl rfl) | exact Or.inr (Or.inr rfl)) (hd : (x == ("__debug__" : Str)) = false := by decide) (hcd : (x == ("__classdict__" : Str)) = false := by decide) (ha : ∀ ov iv new, augStore b ov iv new = (do holding [new, ov, iv] (setItem ov iv new); release [new, ov, iv] []; pure .next) := by intro _ _ _; rfl) : PMS X fr os os ol (.AugAssign (.Subscript (.Name x p2) b p3) .Add e pos) (cAugD i mb m) := by
  obtain ⟨_, h⟩ := h
  obtain ⟨_, hj⟩ := hj
  exact pms_augD (i := i) (hr := hr) (h := h) (hj := hj) (hi := hi) (hN := hN) (hv := hv) (hd := hd) (hcd := hcd) (ha := ha)
end
section
variable {X : Cx} {fr : Bool} {os os' ol : List Nat} {e a b c : Expr} {es : List Expr} {te ta tb tc : TE} {tas : TA} {m ma mb mc : Ev → M D} {ms : Ev → M (List D)} {pos p' p2 p3 : Pos} {k : Nat} {x y : Str}
theorem q_min (hc : X.calm = true) (hg : Gl X "min") (hm : X.mg "min" = none) (ha : QMB X os a ma) (hb : QMB X os b mb) (he : starEach [a, b] X.env = (false, eval a X.env) :: starEach [b] X.env := by rfl) (he2 : starEach [b] X.env = (false, eval b X.env) :: starEach [] X.env := by rfl) (hpl : (backTo pos (starEach [b] X.env)).any (·.1) = false := by rfl) : QM X os (.Call (.Name "min" p') [a, b] [] pos) (eBin dMin ma mb) := by
  obtain ⟨_, ha⟩ := ha
  obtain ⟨_, hb⟩ := hb
  exact ⟨_, pm_min (hc := hc) (hg := hg) (hm := hm) (ha := ha) (hb := hb) (he := he) (he2 := he2) (hpl := hpl)⟩
theorem q_max (hc : X.calm = true) (hg : Gl X "max") (hm : X.mg "max" = none) (ha : QMB X os a ma) (hb : QMB X os b mb) (he : starEach [a, b] X.env = (false, eval a X.env) :: starEach [b] X.env := by rfl) (he2 : starEach [b] X.env = (false, eval b X.env) :: starEach [] X.env := by rfl) (hpl : (backTo pos (starEach [b] X.env)).any (·.1) = false := by rfl) : QM X os (.Call (.Name "max" p') [a, b] [] pos) (eBin dMax ma mb) := by
  obtain ⟨_, ha⟩ := ha
  obtain ⟨_, hb⟩ := hb
  exact ⟨_, pm_max (hc := hc) (hg := hg) (hm := hm) (ha := ha) (hb := hb) (he := he) (he2 := he2) (hpl := hpl)⟩
theorem q_chain {op op' : CmpOp} {r r' : R2} {g g' : D → D → M D} (ho : OpR X (compareOp op) r) (ho' : OpR X (compareOp op') r') (hr : SimR X.K X.mg r g) (hr' : SimR X.K X.mg r' g') (ha : QMB X os a ma) (hb : QMB X os b mb) (hc : QMB X os c mc) (hm : lastMarks [op, op'] [b, c] = false := by with_unfolding_all rfl) : QMC X os (.Compare a [op, op'] [b, c] pos) (eChain g g' ma mb mc) := by
  obtain ⟨_, ha⟩ := ha
  obtain ⟨_, hb⟩ := hb
  obtain ⟨_, hc⟩ := hc
  exact ⟨_, pm_chain (ho := ho) (ho' := ho') (hr := hr) (hr' := hr') (ha := ha) (hb := hb) (hc := hc) (hm := hm)⟩
theorem q_leLe (ha : QMB X os a ma) (hb : QMB X os b mb) (hc : QMB X os c mc) (hm : lastMarks [.LtE, .LtE] [b, c] = false := by with_unfolding_all rfl) : QMC X os (.Compare a [.LtE, .LtE] [b, c] pos) (eChain dLe dLe ma mb mc) := by
  obtain ⟨_, ha⟩ := ha
  obtain ⟨_, hb⟩ := hb
  obtain ⟨_, hc⟩ := hc
  exact ⟨_, pm_leLe (ha := ha) (hb := hb) (hc := hc) (hm := hm)⟩
theorem q_leLt (ha : QMB X os a ma) (hb : QMB X os b mb) (hc : QMB X os c mc) (hm : lastMarks [.LtE, .Lt] [b, c] = false := by with_unfolding_all rfl) : QMC X os (.Compare a [.LtE, .Lt] [b, c] pos) (eChain dLe dLt ma mb mc) := by
  obtain ⟨_, ha⟩ := ha
  obtain ⟨_, hb⟩ := hb
  obtain ⟨_, hc⟩ := hc
  exact ⟨_, pm_leLt (ha := ha) (hb := hb) (hc := hc) (hm := hm)⟩
end
section
variable (K : PySem.W.Frag) (mg : Str → Option Value)
end
theorem QM.x {X : Cx} {os : List Nat} {e : Expr} {m : Ev → M D} (h : QM X os e m) : QMX false X os e m := by
  obtain ⟨_, h⟩ := h
  exact ⟨_, PM.x (h := h)⟩
theorem QMF.x {X : Cx} {os : List Nat} {e : Expr} {m : Ev → M D} (h : QMF X os e m) : QMX true X os e m := by
  obtain ⟨_, h⟩ := h
  exact ⟨_, PMF.x (h := h)⟩
section
variable {K : PySem.W.Frag} {mg : Str → Option Value} {C : Ct} {os : List Nat} {env : Ev} {σ : St} {G H G1 H1 G2 H2 : Hp} {d d' : Drw} {v : V} {x : D} {i : Nat} {f : Bool}
end
section
variable {X : Cx} {fr : Bool} {os os' ol : List Nat} {a b c : Expr} {ta tb tc : TE} {ma mb mc : Ev → M D} {pos : Pos} {x y z : Str} {f1 f2 f3 : Bool}
theorem qs_par2 (i j : Nat) {px py pt : Pos} {kt k2 pt2} (hc : X.calm = true) (hN : X.N.Nodup) (hi : X.N[i]? = some x) (hj : X.N[j]? = some y) (hij : i ≠ j) (hx : X.env.scope.names.lookup x = some .local) (hy : X.env.scope.names.lookup y = some .local) (ha : QMX f1 X os a ma) (hb : QMX f2 X os b mb) (o1 : if f1 = true then i ∈ os else i ∉ os) (o2 : if f2 = true then j ∈ os else j ∉ os) (hw : swappedStores [.Tuple [.Name x px, .Name y py] kt pt] (.Tuple [a, b] k2 pt2) X.env = pure (some [x, y])) (hs : swapsWithSole [.Tuple [.Name x px, .Name y py] kt pt] (.Tuple [a, b] k2 pt2) pos.line X.env = pure false := by rfl) (he : starEach [a, b] X.env = (false, eval a X.env) :: starEach [b] X.env := by rfl) (he2 : starEach [b] X.env = (false, eval b X.env) :: starEach [] X.env := by rfl) : PMS X fr os os ol (.Assign [.Tuple [.Name x px, .Name y py] kt pt] (.Tuple [a, b] k2 pt2) pos) (cPar2 i j ma mb) := by
  obtain ⟨_, ha⟩ := ha
  obtain ⟨_, hb⟩ := hb
  exact pms_par2 (i := i) (j := j) (hc := hc) (hN := hN) (hi := hi) (hj := hj) (hij := hij) (hx := hx) (hy := hy) (ha := ha) (hb := hb) (o1 := o1) (o2 := o2) (hw := hw) (hs := hs) (he := he) (he2 := he2)
end
section
variable {X : Cx} {os : List Nat} {o e : Expr} {to te : TE} {mo m : Ev → M D}
theorem q_join {apos pos : Pos} (ho : QMB X os o mo) (he : QMB X os e m) (hs : starEach [e] X.env = [(false, eval e X.env)] := by rfl) (hbase : attributeBase o "join" X.env (eval o X.env) = eval o X.env := by rfl) (hline : (apos.endLine == pos.line) = true := by rfl) : QM X os (.Call (.Attribute o "join" apos) [e] [] pos) (eBin dJoin mo m) := by
  obtain ⟨_, ho⟩ := ho
  obtain ⟨_, he⟩ := he
  exact ⟨_, pm_join (ho := ho) (he := he) (hs := hs) (hbase := hbase) (hline := hline)⟩
end
section
variable {X : Cx} {os : List Nat} {e : Expr} {te : TE} {m : Ev → M D} {pos p' : Pos}
theorem qf_dictP (hc : X.calm = true) (hg : Gl X "dict") (hm : X.mg "dict" = none) (ha : QMB X os e m) (he : starEach [e] X.env = (false, eval e X.env) :: starEach [] X.env := by rfl) (hpl : (backTo pos (starEach [] X.env)).any (·.1) = false := by rfl) : QMF X os (.Call (.Name "dict" p') [e] [] pos) (eUn dDictP m) := by
  obtain ⟨_, ha⟩ := ha
  exact ⟨_, pmf_dictP (hc := hc) (hg := hg) (hm := hm) (ha := ha) (he := he) (hpl := hpl)⟩
end
section
variable {X : Cx} {a b : Expr} {ta : TA} {p p2 pos pos2 : Pos}
end
section
variable {X : Cx} {os : List Nat} {a b : Expr} {ta : TA} {ms : Ev → M (List D)} {p p2 pos pos2 : Pos}
theorem qf_zipL (hc : X.calm = true) (hg : Gl X "list") (hm : X.mg "list" = none) (hg2 : Gl X "zip") (hm2 : X.mg "zip" = none) (ha : QMA X os [a, b] ms) (hs : starEach [.Call (.Name "zip" p2) [a, b] [] pos2] X.env = (false, eval (.Call (.Name "zip" p2) [a, b] [] pos2) X.env) :: starEach [] X.env := by rfl) (hs2 : starEach [a, b] X.env = (false, eval a X.env) :: starEach [b] X.env := by rfl) (hpl : (backTo pos2 (starEach [b] X.env)).any (·.1) = false := by rfl) : QMF X os (.Call (.Name "list" p) [.Call (.Name "zip" p2) [a, b] [] pos2] [] pos) (aZip ms) := by
  obtain ⟨_, ha⟩ := ha
  exact ⟨_, pmf_zipL (hc := hc) (hg := hg) (hm := hm) (hg2 := hg2) (hm2 := hm2) (ha := ha) (hs := hs) (hs2 := hs2) (hpl := hpl)⟩
end
section
variable {K : PySem.W.Frag} {mg : Str → Option Value} {S : SA} {G : Hp}
end
section
variable {X : Cx} {os : List Nat} {e a tg : Expr} {te : TE} {ta : TA} {m : Ev → M D} {ms : Ev → M (List D)} {pos p' apos cpos tpos : Pos} {elts : List Expr} {kk : Nat}
theorem qi_any (h : QM X os e m) : QMI X os tg e (iOn dIt m) := by
  obtain ⟨_, h⟩ := h
  exact ⟨_, pmi_any (h := h)⟩
theorem qi_vals (h : QM X os e m) (hbase : attributeBase e "values" X.env (eval e X.env) = eval e X.env := by rfl) (hline : (apos.endLine == cpos.line) = true := by rfl) : QMI X os tg (.Call (.Attribute e "values" apos) [] [] cpos) (iOn dVals m) := by
  obtain ⟨_, h⟩ := h
  exact ⟨_, pmi_vals (h := h) (hbase := hbase) (hline := hline)⟩
theorem qi_items (h : QM X os e m) (hbase : attributeBase e "items" X.env (eval e X.env) = eval e X.env := by rfl) (hline : (apos.endLine == cpos.line) = true := by rfl) : QMI X os (.Tuple elts kk tpos) (.Call (.Attribute e "items" apos) [] [] cpos) (iOn dItems m) := by
  obtain ⟨_, h⟩ := h
  exact ⟨_, pmi_items (h := h) (hbase := hbase) (hline := hline)⟩
theorem qi_enum (hg : Gl X "enumerate") (hm : X.mg "enumerate" = none) (ha : QMA X os [e] ms) (hs : starEach [e] X.env = [(false, eval e X.env)] := by rfl) : QMI X os (.Tuple elts kk tpos) (.Call (.Name "enumerate" p') [e] [] pos) (iOns dEnum ms) := by
  obtain ⟨_, ha⟩ := ha
  exact ⟨_, pmi_enum (hg := hg) (hm := hm) (ha := ha) (hs := hs)⟩
end
section
variable {X : Cx} {fr : Bool} {os os' ol : List Nat} {e a b c : Expr} {es : List Expr} {te ta tb tc t1 t2 : TE} {tas : TA} {m ma mb mc m1 m2 : Ev → M D} {ms : Ev → M (List D)} {pos p' : Pos} {k : Nat} {x y : Str} {g g1 g2 : D → D → M D}
theorem q_un (h1 : QM X os e m1) (h2 : QM X os e m2) (h : ∀ env d (P : D → Drw → Prop), Wp (m env d) P → Wp (m1 env d) P ∨ Wp (m2 env d) P) : QM X os e m := by
  obtain ⟨_, h1⟩ := h1
  obtain ⟨_, h2⟩ := h2
  exact ⟨_, pm_un (h1 := h1) (h2 := h2) (h := h)⟩
theorem qf_un (h1 : QMF X os e m1) (h2 : QMF X os e m2) (h : ∀ env d (P : D → Drw → Prop), Wp (m env d) P → Wp (m1 env d) P ∨ Wp (m2 env d) P) : QMF X os e m := by
  obtain ⟨_, h1⟩ := h1
  obtain ⟨_, h2⟩ := h2
  exact ⟨_, pmf_un (h1 := h1) (h2 := h2) (h := h)⟩
theorem qc_un (h1 : QMC X os e m1) (h2 : QMC X os e m2) (h : ∀ env d (P : D → Drw → Prop), Wp (m env d) P → Wp (m1 env d) P ∨ Wp (m2 env d) P) : QMC X os e m := by
  obtain ⟨_, h1⟩ := h1
  obtain ⟨_, h2⟩ := h2
  exact ⟨_, pmc_un (h1 := h1) (h2 := h2) (h := h)⟩
theorem q_at (hr : Room k X.A) (ha : QMB X os a ma) (hb : QMB X os b mb) (h1 : NoSl b := by exact fun _ _ => rfl) (h2 : PlainIx b := by exact fun _ _ => rfl) : QM X os (.Subscript a b pos) (eBin dAt ma mb) := by
  obtain ⟨_, ha⟩ := ha
  obtain ⟨_, hb⟩ := hb
  exact ⟨_, pm_at (hr := hr) (ha := ha) (hb := hb) (h1 := h1) (h2 := h2)⟩
theorem q_in (hr : Room k X.A) (ha : QMB X os a ma) (hb : QMB X os b mb) (hm : behindInMarks .In b = false := by rfl) : QMC X os (.Compare a [.In] [b] pos) (eBin (dIn false) ma mb) := by
  obtain ⟨_, ha⟩ := ha
  obtain ⟨_, hb⟩ := hb
  exact ⟨_, pm_in (hr := hr) (ha := ha) (hb := hb) (hm := hm)⟩
theorem q_nin (hr : Room k X.A) (ha : QMB X os a ma) (hb : QMB X os b mb) (hm : behindInMarks .NotIn b = false := by rfl) : QMC X os (.Compare a [.NotIn] [b] pos) (eBin dNin ma mb) := by
  obtain ⟨_, ha⟩ := ha
  obtain ⟨_, hb⟩ := hb
  exact ⟨_, pm_nin (hr := hr) (ha := ha) (hb := hb) (hm := hm)⟩
theorem qf_dictC (hg : Gl X "dict") (hm : X.mg "dict" = none) (ha : QMB X os e m) (he : starEach [e] X.env = (false, eval e X.env) :: starEach [] X.env := by rfl) (hpl : (backTo pos (starEach [] X.env)).any (·.1) = false := by rfl) : QMF X os (.Call (.Name "dict" p') [e] [] pos) (eUn dDictC m) := by
  obtain ⟨_, ha⟩ := ha
  exact ⟨_, pmf_dictC (hg := hg) (hm := hm) (ha := ha) (he := he) (hpl := hpl)⟩
theorem qf_dict (hc : X.calm = true) (hg : Gl X "dict") (hm : X.mg "dict" = none) (ha : QMB X os e m) (he : starEach [e] X.env = (false, eval e X.env) :: starEach [] X.env := by rfl) (hpl : (backTo pos (starEach [] X.env)).any (·.1) = false := by rfl) : QMF X os (.Call (.Name "dict" p') [e] [] pos) (eUn dDict m) := by
  obtain ⟨_, ha⟩ := ha
  exact ⟨_, pmf_dict (hc := hc) (hg := hg) (hm := hm) (ha := ha) (he := he) (hpl := hpl)⟩
theorem q_get2 {o f : Expr} {apos cpos : Pos} (hr : Room k X.A) (ho : QMB X os o ma) (he : QMB X os e mb) (hf : QM X os f mc) (mm : M2 X o "get" apos e f cpos := by exact ⟨rfl, rfl, rfl, rfl⟩) : QM X os (.Call (.Attribute o "get" apos) [e, f] [] cpos) (eTri dGet2 ma mb mc) := by
  obtain ⟨_, ho⟩ := ho
  obtain ⟨_, he⟩ := he
  obtain ⟨_, hf⟩ := hf
  exact ⟨_, pm_get2 (hr := hr) (ho := ho) (he := he) (hf := hf) (mm := mm)⟩
variable {keys : List (Option Expr)} {values : List Expr} {trs : List (TE × TE)} {mr : Ev → M (List (Key × D))}
theorem qp_nil  : QMP X os pos [] [] pNil := by
  exact ⟨_, pmp_nil ⟩
theorem qp_cons (hk : QM X os a ma) (hv : QM X os b mb) (hr : QMP X os pos keys values mr) : QMP X os pos (some a :: keys) (b :: values) (pCons ma mb mr) := by
  obtain ⟨_, hk⟩ := hk
  obtain ⟨_, hv⟩ := hv
  obtain ⟨_, hr⟩ := hr
  exact ⟨_, pmp_cons (hk := hk) (hv := hv) (hr := hr)⟩
theorem qf_disp (h : QMP X os pos keys values mr) (hall : keys.all (·.isSome) = true := by rfl) (hl : keys.length = values.length := by rfl) (h0 : keys ≠ [] := by exact fun z => nomatch z) (h15 : keys.length ≤ 15 := by decide) : QMF X os (.Dict keys values pos) (eDisp mr) := by
  obtain ⟨_, h⟩ := h
  exact ⟨_, pmf_disp (h := h) (hall := hall) (hl := hl) (h0 := h0) (h15 := h15)⟩
end
section
variable {X : Cx} {os : List Nat} {tg iter kx vx : Expr} {ifs : List Expr} {scope : Scope} {mi : Ev → M (List D)} {tv : List Nat} {t : Ev → D → Option Ev} {n : Ev → M Bool} {mk mv : Ev → M D} {wi : TI} {g : TG} {tt : TT} {tk te : TE} {pos : Pos}
end
section
variable {X : Cx} {os : List Nat} {e a b c : Expr} {es : List Expr} {te ta tb tc : TE} {tas : TA} {m ma mb mc : Ev → M D} {ms : Ev → M (List D)} {p pos p' pT pT2 pU : Pos} {k n : Nat} {x y : Str} {mf : List D → M D} {d : D}
theorem q_gl (h : GD X.K X.mg x d) (hg : Gl X x) (hd : (x == ("__debug__" : Str)) = false := by decide) : QM X os (.Name x pos) (eC d) := by
  exact ⟨_, pm_gl (h := h) (hg := hg) (hd := hd)⟩
theorem q_f (h : Has X.prog X.w X.K X.mg X.base k x n mf) (hr : Room k X.A) (hg : Gl X x) (ha : QMA X os (e :: es) ms) (hdb : (x == ("__debug__" : Str)) = false := by decide) (he : starEach (e :: es) X.env = (false, eval e X.env) :: starEach es X.env := by rfl) (hpl : (backTo pos (starEach es X.env)).any (·.1) = false := by rfl) : QM X os (.Call (.Name x p) (e :: es) [] pos) (eCall n mf ms) := by
  obtain ⟨_, ha⟩ := ha
  exact ⟨_, pm_f (h := h) (hr := hr) (hg := hg) (ha := ha) (hdb := hdb) (he := he) (hpl := hpl)⟩
theorem qf_f (h : HasN X.prog X.w X.K X.mg X.base k x n mf) (hr : Room k X.A) (hg : Gl X x) (ha : QMA X os (e :: es) ms) (hdb : (x == ("__debug__" : Str)) = false := by decide) (he : starEach (e :: es) X.env = (false, eval e X.env) :: starEach es X.env := by rfl) (hpl : (backTo pos (starEach es X.env)).any (·.1) = false := by rfl) : QMF X os (.Call (.Name x p) (e :: es) [] pos) (eCall n mf ms) := by
  obtain ⟨_, ha⟩ := ha
  exact ⟨_, pmf_f (h := h) (hr := hr) (hg := hg) (ha := ha) (hdb := hdb) (he := he) (hpl := hpl)⟩
theorem q_isT {T : Str} {t : String} (g : D → Bool) (hk : ∀ x z, tyN x = some z → kitB z t = some (g x)) (B : Blt X.mg) (hg : Gl X "isinstance") (gT : Gl X T) (iT : T ∈ bltNames) (hT : bootBuiltins T = some (.type t)) (ha : QMB X os a ma) (hn : T ≠ "__name__" := by decide) (hd : (T == ("__debug__" : Str)) = false := by decide) (he : starEach [a, .Name T pT] X.env = (false, eval a X.env) :: starEach [.Name T pT] X.env := by rfl) (he2 : starEach [.Name T pT] X.env = (false, eval (.Name T pT) X.env) :: starEach [] X.env := by rfl) (hpl : (backTo pos (starEach [.Name T pT] X.env)).any (·.1) = false := by rfl) : QM X os (.Call (.Name "isinstance" p') [a, .Name T pT] [] pos) (eUn (dIsi g) ma) := by
  obtain ⟨_, ha⟩ := ha
  exact ⟨_, pm_isT (g := g) (hk := hk) (B := B) (hg := hg) (gT := gT) (iT := iT) (hT := hT) (ha := ha) (hn := hn) (hd := hd) (he := he) (he2 := he2) (hpl := hpl)⟩
end
section
variable {P : Program} {w : World} {K : PySem.W.Frag} {mg : Str → Option Value} {base : Heap}
end
section
variable {X : Cx} {fr : Bool} {os os' ol : List Nat} {e o a b c : Expr} {es : List Expr} {te to ta tb tc : TE} {tas : TA} {m mo ma mb mc : Ev → M D} {ms : Ev → M (List D)} {p pos p' apos cpos : Pos} {k n : Nat} {x y z cn mt fl : Str} {mf : List D → M D} {d : D} {f1 f2 f3 : Bool}
theorem q_field (h : HasF X.K X.mg cn fl) (ho : QM X os o mo) (hb : attributeBase o fl X.env (eval o X.env) = eval o X.env := by rfl) : QM X os (.Attribute o fl pos) (eFld cn fl mo) := by
  obtain ⟨_, ho⟩ := ho
  exact ⟨_, pm_field (h := h) (ho := ho) (hb := hb)⟩
theorem q_m0 {pl : Sem Bool} (h : HasM X.prog X.w X.K X.mg X.base k cn mt n mf) (hr : Room k X.A) (ho : QM X os o mo) (ht : eval (.Call (.Attribute o mt apos) [] [] pos) X.env = (do
      let ov ← eval o X.env
      standAt apos.atName
      let (f, first) ← holding [ov] (getMethod ov mt pl)
      callWith pos f first (backTo pos (starEach [] X.env)) (backToKw pos (keywordEach [] X.env))) := by rfl) : QM X os (.Call (.Attribute o mt apos) [] [] pos) (eMeth cn mt n mf mo aNil) := by
  obtain ⟨_, ho⟩ := ho
  exact ⟨_, pm_m0 (h := h) (hr := hr) (ho := ho) (ht := ht)⟩
theorem qs_try {body : List Stmt} {h₀ : ExceptHandler} {hs : List ExceptHandler} {mb : Ev → M Ctl} (hn : ∀ e s, ¬ X.xe e s) (hb : PMSs X fr os os' ol body mb) : PMS X fr os os' ol (.Try body (h₀ :: hs) [] [] pos) mb := by
  exact pms_try (hn := hn) (hb := hb)
theorem qs_par3 (i j l : Nat) {px py pz pt : Pos} {kt k2 pt2} (hc : X.calm = true) (hN : X.N.Nodup) (hi : X.N[i]? = some x) (hj : X.N[j]? = some y) (hl : X.N[l]? = some z) (hij : i ≠ j) (hil : i ≠ l) (hjl : j ≠ l) (hx : X.env.scope.names.lookup x = some .local) (hy : X.env.scope.names.lookup y = some .local) (hz : X.env.scope.names.lookup z = some .local) (ha : QMX f1 X os a ma) (hb : QMX f2 X os b mb) (hcc : QMX f3 X os c mc) (o1 : if f1 = true then i ∈ os else i ∉ os) (o2 : if f2 = true then j ∈ os else j ∉ os) (o3 : if f3 = true then l ∈ os else l ∉ os) (hw : swappedStores [.Tuple [.Name x px, .Name y py, .Name z pz] kt pt] (.Tuple [a, b, c] k2 pt2) X.env = pure (some [x, y, z])) (hs : swapsWithSole [.Tuple [.Name x px, .Name y py, .Name z pz] kt pt] (.Tuple [a, b, c] k2 pt2) pos.line X.env = pure false := by rfl) (he : starEach [a, b, c] X.env = (false, eval a X.env) :: starEach [b, c] X.env := by rfl) (he2 : starEach [b, c] X.env = (false, eval b X.env) :: starEach [c] X.env := by rfl) (he3 : starEach [c] X.env = (false, eval c X.env) :: starEach [] X.env := by rfl) : PMS X fr os os ol (.Assign [.Tuple [.Name x px, .Name y py, .Name z pz] kt pt] (.Tuple [a, b, c] k2 pt2) pos) (cPar3 i j l ma mb mc) := by
  obtain ⟨_, ha⟩ := ha
  obtain ⟨_, hb⟩ := hb
  obtain ⟨_, hcc⟩ := hcc
  exact pms_par3 (i := i) (j := j) (l := l) (hc := hc) (hN := hN) (hi := hi) (hj := hj) (hl := hl) (hij := hij) (hil := hil) (hjl := hjl) (hx := hx) (hy := hy) (hz := hz) (ha := ha) (hb := hb) (hcc := hcc) (o1 := o1) (o2 := o2) (o3 := o3) (hw := hw) (hs := hs) (he := he) (he2 := he2) (he3 := he3)
theorem q_count (ho : QMB X os o mo) (he : QMB X os e m) (hbase : attributeBase o "count" X.env (eval o X.env) = eval o X.env := by rfl) (hfew : ((backTo cpos (starEach [e] X.env)).all (fun x => !x.1) && (backToKw cpos (keywordEach [] X.env)).all (fun x => x.1.isSome)
      && decide ([e].length + ([] : List Keyword).length + (if ([] : List Keyword).isEmpty then 0 else 1) < 30)) = true := by rfl) (hline : (apos.endLine == cpos.line) = true := by rfl) (hs : starEach [e] X.env = (false, eval e X.env) :: starEach [] X.env := by rfl) (hplain : (backTo cpos (starEach [] X.env)).any (·.1) = false := by rfl) : QM X os (.Call (.Attribute o "count" apos) [e] [] cpos) (eBin dCount mo m) := by
  obtain ⟨_, ho⟩ := ho
  obtain ⟨_, he⟩ := he
  exact ⟨_, pm_count (ho := ho) (he := he) (hbase := hbase) (hfew := hfew) (hline := hline) (hs := hs) (hplain := hplain)⟩
theorem qs_clr (i : Nat) {p2 : Pos} (hi : i ∈ os := by decide) (hN : X.N[i]? = some x := by rfl) (hv : Vis X.env.scope x := by first | exact Or.inl rfl | exact Or.inr (Or.inl rfl) | exact Or.inr (Or.inr rfl)) (hd : (x == ("__debug__" : Str)) = false := by decide) (hcd : (x == ("__classdict__" : Str)) = false := by decide) (hbase : attributeBase (.Name x p2) "clear" X.env (eval (.Name x p2) X.env) = eval (.Name x p2) X.env := by rfl) (hline : (apos.endLine == cpos.line) = true := by rfl) (hs : swapsWith (.Call (.Attribute (.Name x p2) "clear" apos) [] [] cpos) none pos.line X.env = pure false := by rfl) : PMS X fr os os ol (.Expr (.Call (.Attribute (.Name x p2) "clear" apos) [] [] cpos) pos) (cClr i) := by
  exact pms_clr (i := i) (hi := hi) (hN := hN) (hv := hv) (hd := hd) (hcd := hcd) (hbase := hbase) (hline := hline) (hs := hs)
end
section
variable {K : PySem.W.Frag} {mg : Str → Option Value} {C : Ct} {os : List Nat} {env : Ev} {σ : St} {G H H' : Hp} {d d' : Drw} {v : V} {x : D} {i : Nat}
end
section
variable {X : Cx} {fr : Bool} {os os' ol : List Nat} {e o a b c : Expr} {es : List Expr} {te to ta tb tc : TE} {tas : TA} {m mo ma mb mc : Ev → M D} {ms : Ev → M (List D)} {p pos p' p2 p3 p4 apos cpos : Pos} {k n j : Nat} {x y z : Str}
theorem q_stI (i : Nat) (nm : Str) (f : Drw → Int) (hf : ∀ S d, valV (stK S d) (.inr nm : Key) = some (.int (f d))) (hr : Room k X.A) (ho : i ∉ os := by decide) (hN : X.N[i]? = some x := by rfl) (hv : Vis X.env.scope x := by first | exact Or.inl rfl | exact Or.inr (Or.inl rfl) | exact Or.inr (Or.inr rfl)) (hd : (x == ("__debug__" : Str)) = false := by decide) (hcd : (x == ("__classdict__" : Str)) = false := by decide) : QM X os (.Subscript (.Name x p) (.Constant (.str nm) j p2) pos) (eSt i fun d => .int (f d)) := by
  exact ⟨_, pm_stI (i := i) (nm := nm) (f := f) (hf := hf) (hr := hr) (ho := ho) (hN := hN) (hv := hv) (hd := hd) (hcd := hcd)⟩
theorem q_stNe (i : Nat) (nm : Str) (f : Drw → List Int) (ad : SA → Addr) (hf : ∀ S d, valV (stK S d) (.inr nm : Key) = some (.ref (ad S))) (hl : ∀ S H d, StR S H d → H (ad S) = some (.lst ((f d).map V.int))) (hr : Room k X.A) (ho : i ∉ os := by decide) (hN : X.N[i]? = some x := by rfl) (hv : Vis X.env.scope x := by first | exact Or.inl rfl | exact Or.inr (Or.inl rfl) | exact Or.inr (Or.inr rfl)) (hd : (x == ("__debug__" : Str)) = false := by decide) (hcd : (x == ("__classdict__" : Str)) = false := by decide) : QMC X os (.Compare (.Subscript (.Name x p) (.Constant (.str nm) j p2) p3) [.NotEq] [.List [] p4] pos) (eSt i fun d => .bl (!decide (f d = []))) := by
  exact ⟨_, pm_stNe (i := i) (nm := nm) (f := f) (ad := ad) (hf := hf) (hl := hl) (hr := hr) (ho := ho) (hN := hN) (hv := hv) (hd := hd) (hcd := hcd)⟩
theorem q_stCe (i : Nat) (hr : Room k X.A) (hb : QMB X os b mb) (ho : i ∉ os := by decide) (hN : X.N[i]? = some x := by rfl) (hv : Vis X.env.scope x := by first | exact Or.inl rfl | exact Or.inr (Or.inl rfl) | exact Or.inr (Or.inr rfl)) (hd : (x == ("__debug__" : Str)) = false := by decide) (hcd : (x == ("__classdict__" : Str)) = false := by decide) (hs : PlainIx b := by exact fun _ _ => rfl) : QM X os (.Subscript (.Subscript (.Name x p) (.Constant (.str "cells") j p2) p3) b pos) (eStCe i mb) := by
  obtain ⟨_, hb⟩ := hb
  exact ⟨_, pm_stCe (i := i) (hr := hr) (hb := hb) (ho := ho) (hN := hN) (hv := hv) (hd := hd) (hcd := hcd) (hs := hs)⟩
theorem q_stLen (i : Nat) (hr : Room k X.A) (hg : Gl X "len") (hm : X.mg "len" = none) (ho : i ∉ os := by decide) (hN : X.N[i]? = some x := by rfl) (hv : Vis X.env.scope x := by first | exact Or.inl rfl | exact Or.inr (Or.inl rfl) | exact Or.inr (Or.inr rfl)) (hd : (x == ("__debug__" : Str)) = false := by decide) (hcd : (x == ("__classdict__" : Str)) = false := by decide) (he : starEach [.Subscript (.Name x p) (.Constant (.str "cells") j p2) p3] X.env = (false, eval (.Subscript (.Name x p) (.Constant (.str "cells") j p2) p3) X.env) :: starEach [] X.env := by rfl) (hpl : (backTo pos (starEach [] X.env)).any (·.1) = false := by rfl) : QM X os (.Call (.Name "len" p') [.Subscript (.Name x p) (.Constant (.str "cells") j p2) p3] [] pos) (eSt i fun d => .int d.ce.length) := by
  exact ⟨_, pm_stLen (i := i) (hr := hr) (hg := hg) (hm := hm) (ho := ho) (hN := hN) (hv := hv) (hd := hd) (hcd := hcd) (he := he) (hpl := hpl)⟩
theorem qs_stDg (i : Nat) (hr : Room k X.A) (h : QM X os e m) (ho : i ∉ os := by decide) (hN : X.N[i]? = some x := by rfl) (hv : Vis X.env.scope x := by first | exact Or.inl rfl | exact Or.inr (Or.inl rfl) | exact Or.inr (Or.inr rfl)) (hd : (x == ("__debug__" : Str)) = false := by decide) (hcd : (x == ("__classdict__" : Str)) = false := by decide) (hs : swapsWith e (some (.Subscript (.Name x p) (.Constant (.str "digits") j p2) p3)) pos.line X.env = pure false := by rfl) : PMS X fr os os ol (.Assign [.Subscript (.Name x p) (.Constant (.str "digits") j p2) p3] e pos) (cStDg i m) := by
  obtain ⟨_, h⟩ := h
  exact pms_stDg (i := i) (hr := hr) (h := h) (ho := ho) (hN := hN) (hv := hv) (hd := hd) (hcd := hcd) (hs := hs)
theorem qs_stPop (i : Nat) {q1 q2 q4 : Pos} {j2 j3 : Nat} (hr : Room k X.A) (ho : i ∉ os := by decide) (hN : X.N[i]? = some x := by rfl) (hv : Vis X.env.scope x := by first | exact Or.inl rfl | exact Or.inr (Or.inl rfl) | exact Or.inr (Or.inr rfl)) (hd : (x == ("__debug__" : Str)) = false := by decide) (hcd : (x == ("__classdict__" : Str)) = false := by decide) (hs : swapsWith (.Call (.Attribute (.Subscript (.Name x p) (.Constant (.str "great") j2 q1) q2) "pop" apos) [.Constant (.int 0) j3 q4] [] cpos) (some (.Subscript (.Name x p4) (.Constant (.str "digits") j p2) p3)) pos.line X.env = pure false := by rfl) (hbase : attributeBase (.Subscript (.Name x p) (.Constant (.str "great") j2 q1) q2) "pop" X.env (eval (.Subscript (.Name x p) (.Constant (.str "great") j2 q1) q2) X.env) = eval (.Subscript (.Name x p) (.Constant (.str "great") j2 q1) q2) X.env := by rfl) (hfew : ((backTo cpos (starEach [.Constant (.int 0) j3 q4] X.env)).all (fun x => !x.1) && (backToKw cpos (keywordEach [] X.env)).all (fun x => x.1.isSome)
      && decide ([Expr.Constant (.int 0) j3 q4].length + ([] : List Keyword).length + (if ([] : List Keyword).isEmpty then 0 else 1) < 30)) = true := by rfl) (hline : (apos.endLine == cpos.line) = true := by rfl) (hst : starEach [.Constant (.int 0) j3 q4] X.env = (false, eval (.Constant (.int 0) j3 q4) X.env) :: starEach [] X.env := by rfl) (hplain : (backTo cpos (starEach [] X.env)).any (·.1) = false := by rfl) : PMS X fr os os ol (.Assign [.Subscript (.Name x p4) (.Constant (.str "digits") j p2) p3] (.Call (.Attribute (.Subscript (.Name x p) (.Constant (.str "great") j2 q1) q2) "pop" apos) [.Constant (.int 0) j3 q4] [] cpos) pos) (cStPop i) := by
  exact pms_stPop (i := i) (hr := hr) (ho := ho) (hN := hN) (hv := hv) (hd := hd) (hcd := hcd) (hs := hs) (hbase := hbase) (hfew := hfew) (hline := hline) (hst := hst) (hplain := hplain)
theorem qs_stTn (i : Nat) {j3 : Nat} {q4 : Pos} (hr : Room k X.A) (ho : i ∉ os := by decide) (hN : X.N[i]? = some x := by rfl) (hv : Vis X.env.scope x := by first | exact Or.inl rfl | exact Or.inr (Or.inl rfl) | exact Or.inr (Or.inr rfl)) (hd : (x == ("__debug__" : Str)) = false := by decide) (hcd : (x == ("__classdict__" : Str)) = false := by decide) (ha : ∀ ov iv new, augStore (.Constant (.str "turn") j p2) ov iv new = (do holding [new, ov, iv] (setItem ov iv new); release [new, ov, iv] []; pure .next) := by intro _ _ _; rfl) : PMS X fr os os ol (.AugAssign (.Subscript (.Name x p) (.Constant (.str "turn") j p2) p3) .Add (.Constant (.int 1) j3 q4) pos) (cStTn i) := by
  exact pms_stTn (i := i) (hr := hr) (ho := ho) (hN := hN) (hv := hv) (hd := hd) (hcd := hcd) (ha := ha)
end
section
variable {P : Program} {w : World} {K : PySem.W.Frag} {mg : Str → Option Value} {base : Heap}
end
section
variable {X : Cx} {k : Nat} {f : Addr} {fd : FuncData} {ps : List Str} {ds : List Value} {dvs : List V} {sp : Sp} {E : XK}
end
theorem q_fG {X : Cx} {os : List Nat} {k n : Nat} {x : Str} {p pos : Pos} {e : Expr} {es : List Expr} {ms : Ev → M (List D)} {mf : List D → M D} (h : HasG X.prog X.w X.K X.mg X.base k x n mf) (hr : Room k X.A) (hgd : X.A.guards = some []) (hg : Gl X x) (ha : QMA X os (e :: es) ms) (hdb : (x == ("__debug__" : Str)) = false := by decide) (he : starEach (e :: es) X.env = (false, eval e X.env) :: starEach es X.env := by rfl) (hpl : (backTo pos (starEach es X.env)).any (·.1) = false := by rfl) : QM X os (.Call (.Name x p) (e :: es) [] pos) (eCall n mf ms) := by
  obtain ⟨_, ha⟩ := ha
  exact ⟨_, pm_fG (h := h) (hr := hr) (hgd := hgd) (hg := hg) (ha := ha) (hdb := hdb) (he := he) (hpl := hpl)⟩
section
end
section
end
section
variable {X : Cx} {pins : List (Addr × Obj)} {σ : St} {H : Hp} {s : Shared} {S : SA} {G : Hp} {mg : Str → Option Value}
section
end
end
section
variable {X : Cx} {os : List Nat} {e : Expr} {te : TE} {m : Ev → M D} {k : Nat} {p' pos : Pos}
theorem q_repr (hr : Room k X.A) (hgd : X.A.guards = some []) (hg : Gl X "repr") (hm : X.mg "repr" = none) (ha : QMB X os e m) (he : starEach [e] X.env = (false, eval e X.env) :: starEach [] X.env := by rfl) (hpl : (backTo pos (starEach [] X.env)).any (·.1) = false := by rfl) : QM X os (.Call (.Name "repr" p') [e] [] pos) (eUn dRepr m) := by
  obtain ⟨_, ha⟩ := ha
  exact ⟨_, pm_repr (hr := hr) (hgd := hgd) (hg := hg) (hm := hm) (ha := ha) (he := he) (hpl := hpl)⟩
end
section
variable {X : Cx} {os : List Nat} {e : Expr} {te : TE} {m : Ev → M D} {p apos cpos pos : Pos}
theorem qf_itL (hc : X.calm = true) (hg : Gl X "list") (hm : X.mg "list" = none) (ha : QMB X os e m) (hbase : attributeBase e "items" X.env (eval e X.env) = eval e X.env := by rfl) (hline : (apos.endLine == cpos.line) = true := by rfl) (hs : starEach [.Call (.Attribute e "items" apos) [] [] cpos] X.env = (false, eval (.Call (.Attribute e "items" apos) [] [] cpos) X.env) :: starEach [] X.env := by rfl) : QMF X os (.Call (.Name "list" p) [.Call (.Attribute e "items" apos) [] [] cpos] [] pos) (eUn dItL m) := by
  obtain ⟨_, ha⟩ := ha
  exact ⟨_, pmf_itL (hc := hc) (hg := hg) (hm := hm) (ha := ha) (hbase := hbase) (hline := hline) (hs := hs)⟩
end
section
variable {K : PySem.W.Frag} {mg : Str → Option Value} {S : SA} {G : Hp}
end
section
variable {X : Cx} {os : List Nat} {e : Expr} {kws : List Keyword} {te : TE} {tk : TA} {m : Ev → M D} {ms : Ev → M (List D)} {x : Str} {p pos kpos : Pos} {k n : Nat} {nm : Option Str} {mf : List D → M D} {ks : List Str} {ix : List Nat}
theorem qk_nil  : QMK X os [] aNil := by
  exact ⟨_, pmk_nil ⟩
theorem qk_cons (ha : QM X os e m) (hr : QMK X os kws ms) : QMK X os (⟨nm, e, kpos⟩ :: kws) (aCons m ms) := by
  obtain ⟨_, ha⟩ := ha
  obtain ⟨_, hr⟩ := hr
  exact ⟨_, pmk_cons (ha := ha) (hr := hr)⟩
theorem q_k (h : HasK X.prog X.w X.K X.mg X.base k x n ks ix mf) (hr : Room k X.A) (hg : Gl X x) (ha : QMK X os kws ms) (hix : ix.length = n ∧ ∀ i ∈ ix, i < n := by decide) (hall : (backToKw pos (keywordEach kws X.env)).all (·.1.isSome) = true := by rfl) (hks : (backToKw pos (keywordEach kws X.env)).filterMap (·.1) = ks := by rfl) (hdb : (x == ("__debug__" : Str)) = false := by decide) (hpl : ((backTo pos (starEach [] X.env)).any (·.1) || (backToKw pos (keywordEach kws X.env)).any (·.1.isNone)) = false := by rfl) : QM X os (.Call (.Name x p) [] kws pos) (eCallK n ix mf ms) := by
  obtain ⟨_, ha⟩ := ha
  exact ⟨_, pm_k (h := h) (hr := hr) (hg := hg) (ha := ha) (hix := hix) (hall := hall) (hks := hks) (hdb := hdb) (hpl := hpl)⟩
theorem qf_k (h : HasKN X.prog X.w X.K X.mg X.base k x n ks ix mf) (hr : Room k X.A) (hg : Gl X x) (ha : QMK X os kws ms) (hix : ix.length = n ∧ ∀ i ∈ ix, i < n := by decide) (hall : (backToKw pos (keywordEach kws X.env)).all (·.1.isSome) = true := by rfl) (hks : (backToKw pos (keywordEach kws X.env)).filterMap (·.1) = ks := by rfl) (hdb : (x == ("__debug__" : Str)) = false := by decide) (hpl : ((backTo pos (starEach [] X.env)).any (·.1) || (backToKw pos (keywordEach kws X.env)).any (·.1.isNone)) = false := by rfl) : QMF X os (.Call (.Name x p) [] kws pos) (eCallK n ix mf ms) := by
  obtain ⟨_, ha⟩ := ha
  exact ⟨_, pmf_k (h := h) (hr := hr) (hg := hg) (ha := ha) (hix := hix) (hall := hall) (hks := hks) (hdb := hdb) (hpl := hpl)⟩
end
section
variable {P : Program} {w : World} {K : PySem.W.Frag} {mg : Str → Option Value} {base : Heap} {x : Str} {st : Stmt} {ps ks : List Str} {k n : Nat} {ix : List Nat} {m : List D → M D}
end
section
variable {X : Cx} {fr : Bool} {os os' ol : List Nat} {e : Expr} {te : TE} {m : Ev → M D} {pos p' : Pos} {y : Str}
theorem qs_setO (i : Nat) (hi : i ∉ os) (hN : X.N.Nodup) (hy : X.N[i]? = some y) (hl : Loc X.env.scope y) (h : QMF X os e m) (hs : swapsWith e (some (.Name y p')) pos.line X.env = pure false := by rfl) (hf : X.fn y = true ∨ X.env.scope.names.lookup y = some .local := by first | exact .inl rfl | exact .inr rfl | assumption) : PMS X fr os (i :: os) ol (.Assign [.Name y p'] e pos) (cSet i m) := by
  obtain ⟨_, h⟩ := h
  exact pms_setO (i := i) (hi := hi) (hN := hN) (hy := hy) (hl := hl) (h := h) (hs := hs) (hf := hf)
end
section
variable {K : PySem.W.Frag} {mg : Str → Option Value} {S : SA} {G G' : Hp}
end
section
variable {X : Cx} {c : Str} {sts : List Stmt} {r : Ev → List (Str × D) → M (List (Str × D))} {pos p p2 : Pos}
theorem qn_if {e : Expr} {rs : List Stmt} {n : Ev → M Bool} (hc : QMT X [] e n) (hr : PMN X c sts r) : PMN X c (.If e rs [] pos :: sts) (nIf n r) := by
  obtain ⟨_, hc⟩ := hc
  exact pmn_if (hc := hc) (hr := hr)
theorem qn_fld {e : Expr} {f self : Str} {m : Ev → M D} (hf : HasF X.K X.mg c f) (h : QM X [] e m) (hr : PMN X c sts r) (hs : swapsWith e (some (.Attribute (.Name self p) f p2)) pos.line X.env = pure false := by rfl) (hN : X.N[0]? = some self := by rfl) (hv : Vis X.env.scope self := by first | exact Or.inl rfl | exact Or.inr (Or.inl rfl) | exact Or.inr (Or.inr rfl)) (hd : (self == ("__debug__" : Str)) = false := by decide) (hcd : (self == ("__classdict__" : Str)) = false := by decide) : PMN X c (.Assign [.Attribute (.Name self p) f p2] e pos :: sts) (nFld f m r) := by
  obtain ⟨_, h⟩ := h
  exact pmn_fld (hf := hf) (h := h) (hr := hr) (hs := hs) (hN := hN) (hv := hv) (hd := hd) (hcd := hcd)
end
section
variable {P : Program} {w : World} {K : PySem.W.Frag} {mg : Str → Option Value} {base : Heap}
end
theorem q_mk {X : Cx} {os : List Nat} {e : Expr} {es : List Expr} {kws : List Keyword} {ma mk : Ev → M (List D)} {c : Str} {p pos : Pos} {k n nk : Nat} {ks : List Str} {m : List D → M (List (Str × D))} (h : HasI X.prog X.w X.K X.mg X.base k c n ks m) (hr : Room (k + 1) X.A) (hg : Gl X c) (ha : QMA X os (e :: es) ma) (hk : QMK X os kws mk) (hnk : ks.length = nk := by rfl) (hall : (backToKw pos (keywordEach kws X.env)).all (·.1.isSome) = true := by rfl) (hks : (backToKw pos (keywordEach kws X.env)).filterMap (·.1) = ks := by rfl) (hdb : (c == ("__debug__" : Str)) = false := by decide) (he : starEach (e :: es) X.env = (false, eval e X.env) :: starEach es X.env := by rfl) (hpl : ((backTo pos (starEach (e :: es) X.env)).any (·.1) || (backToKw pos (keywordEach kws X.env)).any (·.1.isNone)) = false := by rfl) : QM X os (.Call (.Name c p) (e :: es) kws pos) (eMk c n nk m ma mk) := by
  obtain ⟨_, ha⟩ := ha
  obtain ⟨_, hk⟩ := hk
  exact ⟨_, pm_mk (h := h) (hr := hr) (hg := hg) (ha := ha) (hk := hk) (hnk := hnk) (hall := hall) (hks := hks) (hdb := hdb) (he := he) (hpl := hpl)⟩
section
variable {X : Cx} {fr : Bool} {os os' ol tv : List Nat} {e o a b tg : Expr} {es : List Expr} {te to ta tb : TE} {tas : TA} {m mo ma mb : Ev → M D} {ms : Ev → M (List D)} {p pos p' apos p2 p3 : Pos} {k n : Nat} {x y cn mt : Str} {mf : List D → M D} {g : TG} {t : Ev → D → Option Ev}
theorem qs_asg (h : QM X os e m) (hg : QMG X os tv tg t) (hs : swapsWithSole [tg] e pos.line X.env = pure false := by rfl) (hw : swappedStores [tg] e X.env = pure none := by rfl) (h1 : (assignEach [tg] X.env).map (·.2) = [assign tg X.env] := by rfl) : PMS X fr os os ol (.Assign [tg] e pos) (cAsg t m) := by
  obtain ⟨_, h⟩ := h
  obtain ⟨_, hg⟩ := hg
  exact pms_asg (h := h) (hg := hg) (hs := hs) (hw := hw) (h1 := h1)
theorem qs_ext (i : Nat) (h : QM X os e m) (hi : i ∈ os := by decide) (hN : X.N[i]? = some x := by rfl) (hv : Vis X.env.scope x := by first | exact Or.inl rfl | exact Or.inr (Or.inl rfl) | exact Or.inr (Or.inr rfl)) (hd : (x == ("__debug__" : Str)) = false := by decide) (hcd : (x == ("__classdict__" : Str)) = false := by decide) (hbase : attributeBase (.Name x p2) "extend" X.env (eval (.Name x p2) X.env) = eval (.Name x p2) X.env := by rfl) (hfew : ((backTo p3 (starEach [e] X.env)).all (fun x => !x.1) && (backToKw p3 (keywordEach [] X.env)).all (fun x => x.1.isSome) && decide ([e].length + ([] : List Keyword).length + (if ([] : List Keyword).isEmpty then 0 else 1) < 30)) = true := by rfl) (hline : (p'.endLine == p3.line) = true := by rfl) (hst : starEach [e] X.env = (false, eval e X.env) :: starEach [] X.env := by rfl) (hplain : (backTo p3 (starEach [] X.env)).any (·.1) = false := by rfl) (hs : swapsWith (.Call (.Attribute (.Name x p2) "extend" p') [e] [] p3) none pos.line X.env = pure false := by rfl) : PMS X fr os os ol (.Expr (.Call (.Attribute (.Name x p2) "extend" p') [e] [] p3) pos) (cExt i m) := by
  obtain ⟨_, h⟩ := h
  exact pms_ext (i := i) (h := h) (hi := hi) (hN := hN) (hv := hv) (hd := hd) (hcd := hcd) (hbase := hbase) (hfew := hfew) (hline := hline) (hst := hst) (hplain := hplain) (hs := hs)
theorem qs_clrL (i : Nat) (hi : i ∈ os := by decide) (hN : X.N[i]? = some x := by rfl) (hv : Vis X.env.scope x := by first | exact Or.inl rfl | exact Or.inr (Or.inl rfl) | exact Or.inr (Or.inr rfl)) (hd : (x == ("__debug__" : Str)) = false := by decide) (hcd : (x == ("__classdict__" : Str)) = false := by decide) (hbase : attributeBase (.Name x p2) "clear" X.env (eval (.Name x p2) X.env) = eval (.Name x p2) X.env := by rfl) (hline : (p'.endLine == p3.line) = true := by rfl) (hs : swapsWith (.Call (.Attribute (.Name x p2) "clear" p') [] [] p3) none pos.line X.env = pure false := by rfl) : PMS X fr os os ol (.Expr (.Call (.Attribute (.Name x p2) "clear" p') [] [] p3) pos) (cClrL i) := by
  exact pms_clrL (i := i) (hi := hi) (hN := hN) (hv := hv) (hd := hd) (hcd := hcd) (hbase := hbase) (hline := hline) (hs := hs)
theorem qs_move (i j : Nat) (hi : i ∈ os) (hj : j ∈ os) (hij : i ≠ j) (hN : X.N.Nodup) (hy : X.N[i]? = some y) (hl : Loc X.env.scope y) (hNj : X.N[j]? = some x) (hv : Vis X.env.scope x := by first | exact Or.inl rfl | exact Or.inr (Or.inl rfl) | exact Or.inr (Or.inr rfl)) (hd : (x == ("__debug__" : Str)) = false := by decide) (hcd : (x == ("__classdict__" : Str)) = false := by decide) (hs : swapsWith (.Name x p) (some (.Name y p')) pos.line X.env = pure false := by rfl) (hf : X.fn y = true ∨ X.env.scope.names.lookup y = some .local := by first | exact .inl rfl | exact .inr rfl | assumption) : PMS X fr os os ol (.Assign [.Name y p'] (.Name x p) pos) (cMove i j) := by
  exact pms_move (i := i) (j := j) (hi := hi) (hj := hj) (hij := hij) (hN := hN) (hy := hy) (hl := hl) (hNj := hNj) (hv := hv) (hd := hd) (hcd := hcd) (hs := hs) (hf := hf)
theorem qs_pop0 (i j : Nat) {q4 : Pos} {c0 : Nat} (hi : i ∉ os) (hj : j ∈ os) (hN : X.N.Nodup) (hy : X.N[i]? = some y) (hl : Loc X.env.scope y) (hNj : X.N[j]? = some x) (hv : Vis X.env.scope x := by first | exact Or.inl rfl | exact Or.inr (Or.inl rfl) | exact Or.inr (Or.inr rfl)) (hd : (x == ("__debug__" : Str)) = false := by decide) (hcd : (x == ("__classdict__" : Str)) = false := by decide) (hbase : attributeBase (.Name x p2) "pop" X.env (eval (.Name x p2) X.env) = eval (.Name x p2) X.env := by rfl) (hfew : ((backTo p3 (starEach [.Constant (.int 0) c0 q4] X.env)).all (fun x => !x.1) && (backToKw p3 (keywordEach [] X.env)).all (fun x => x.1.isSome) && decide ([Expr.Constant (.int 0) c0 q4].length + ([] : List Keyword).length + (if ([] : List Keyword).isEmpty then 0 else 1) < 30)) = true := by rfl) (hline : (apos.endLine == p3.line) = true := by rfl) (hst : starEach [.Constant (.int 0) c0 q4] X.env = (false, eval (.Constant (.int 0) c0 q4) X.env) :: starEach [] X.env := by rfl) (hplain : (backTo p3 (starEach [] X.env)).any (·.1) = false := by rfl) (hs : swapsWith (.Call (.Attribute (.Name x p2) "pop" apos) [.Constant (.int 0) c0 q4] [] p3) (some (.Name y p')) pos.line X.env = pure false := by rfl) (hf : X.fn y = true ∨ X.env.scope.names.lookup y = some .local := by first | exact .inl rfl | exact .inr rfl | assumption) : PMS X fr os os ol (.Assign [.Name y p'] (.Call (.Attribute (.Name x p2) "pop" apos) [.Constant (.int 0) c0 q4] [] p3) pos) (cPop0 i j) := by
  exact pms_pop0 (i := i) (j := j) (hi := hi) (hj := hj) (hN := hN) (hy := hy) (hl := hl) (hNj := hNj) (hv := hv) (hd := hd) (hcd := hcd) (hbase := hbase) (hfew := hfew) (hline := hline) (hst := hst) (hplain := hplain) (hs := hs) (hf := hf)
theorem q_m {pl : Sem Bool} (h : HasM X.prog X.w X.K X.mg X.base k cn mt n mf) (hr : Room k X.A) (ho : QM X os o mo) (ha : QMA X os (e :: es) ms) (hst : starEach (e :: es) X.env = (false, eval e X.env) :: starEach es X.env := by rfl) (hpl : (backTo pos (starEach es X.env)).any (·.1) = false := by rfl) (ht : eval (.Call (.Attribute o mt apos) (e :: es) [] pos) X.env = (do
      let ov ← eval o X.env
      standAt apos.atName
      let (f, first) ← holding [ov] (getMethod ov mt pl)
      callWith pos f first (backTo pos (starEach (e :: es) X.env)) (backToKw pos (keywordEach [] X.env))) := by rfl) : QM X os (.Call (.Attribute o mt apos) (e :: es) [] pos) (eMeth cn mt n mf mo ms) := by
  obtain ⟨_, ho⟩ := ho
  obtain ⟨_, ha⟩ := ha
  exact ⟨_, pm_m (h := h) (hr := hr) (ho := ho) (ha := ha) (hst := hst) (hpl := hpl) (ht := ht)⟩
theorem qf_non {b : Nat} : QMF X os (.Constant .none b pos) (eC .non) := by
  exact ⟨_, pmf_non ⟩
theorem qf_mulL (ha : QMB X os a ma) (hb : QMB X os b mb) : QMF X os (.BinOp a .Mult b pos) (eBin dRep ma mb) := by
  obtain ⟨_, ha⟩ := ha
  obtain ⟨_, hb⟩ := hb
  exact ⟨_, pmf_mulL (ha := ha) (hb := hb)⟩
end
section
variable {P : Program} {w : World} {K : PySem.W.Frag} {mg : Str → Option Value} {base : Heap} {x nm : Str} {st : Stmt} {ps : List Str} {k n : Nat} {m : List D → M D} {d : D}
end
section
variable {X : Cx}
end
section
variable {X : Cx} {os : List Nat} {e : Expr} {te : TE} {m : Ev → M D} {pos p' : Pos}
theorem q_tupleP (hg : Gl X "tuple") (hm : X.mg "tuple" = none) (ha : QMB X os e m) (he : starEach [e] X.env = (false, eval e X.env) :: starEach [] X.env := by rfl) (hpl : (backTo pos (starEach [] X.env)).any (·.1) = false := by rfl) : QM X os (.Call (.Name "tuple" p') [e] [] pos) (eUn dTupleP m) := by
  obtain ⟨_, ha⟩ := ha
  exact ⟨_, pm_tupleP (hg := hg) (hm := hm) (ha := ha) (he := he) (hpl := hpl)⟩
theorem qf_dictT (hc : X.calm = true) (hg : Gl X "dict") (hm : X.mg "dict" = none) (ha : QMB X os e m) (he : starEach [e] X.env = (false, eval e X.env) :: starEach [] X.env := by rfl) (hpl : (backTo pos (starEach [] X.env)).any (·.1) = false := by rfl) : QMF X os (.Call (.Name "dict" p') [e] [] pos) (eUn dDictT m) := by
  obtain ⟨_, ha⟩ := ha
  exact ⟨_, pmf_dictT (hc := hc) (hg := hg) (hm := hm) (ha := ha) (he := he) (hpl := hpl)⟩
end

/-! ### a body that does not end of itself -/
def NoEnd (b : Ev → M Ctl) : Prop := ∀ env d e d', b env d ≠ .ok (.nx e) d'
theorem noend_ret {m : Ev → M D} : NoEnd (cRet m) := fun env d e d' h => by
  unfold cRet at h
  rw [bind_run] at h
  split at h <;> cases h
theorem noend_seq {a b : Ev → M Ctl} (hb : NoEnd b) : NoEnd (cSeq a b) := fun env d e d' h => by
  unfold cSeq at h
  rw [bind_run] at h
  cases q : a env d with
  | bad => rw [q] at h; cases h
  | ok c d1 =>
    rw [q] at h
    cases c with
    | nx e1 => exact hb e1 d1 e d' h
    | ret x => cases h
    | brk e1 => cases h
    | cont e1 => cases h
/-! ### the widest readings -/
def cE (K : PySem.W.Frag) (mg : Str → Option Value) (os : List Nat) (m : Ev → M D) : TE := fun σ H Q => ∃ C G env d, IM K mg C os env σ H G d ∧ Wp (m env d) fun x d' => ∀ v H' G', Aft C.S G H G' H' d' → Rep K mg C.S G' v x → Q v H'
def cT (K : PySem.W.Frag) (mg : Str → Option Value) (os : List Nat) (m : Ev → M Bool) : TT := fun σ H Q => ∃ C G env d, IM K mg C os env σ H G d ∧ Wp (m env d) fun b d' => ∀ H' G', Aft C.S G H G' H' d' → Q b H'
def cG (K : PySem.W.Frag) (mg : Str → Option Value) (os tv : List Nat) (t : Ev → D → Option Ev) : TG := fun v σ H Q => ∃ C G env d x e, IM K mg C os env σ H G d ∧ Rep K mg C.S G v x ∧ t env x = some e ∧ ∀ σ', IM K mg C os e σ' H G d → σ'.length = σ.length → (∀ j, j ∉ tv → σ'[j]? = σ[j]?) → Q σ' H
section
variable {X : Cx} {os tv : List Nat} {e : Expr} {es : List Expr} {m : Ev → M D} {n : Ev → M Bool} {t : Ev → D → Option Ev}
theorem QM.can (h : QM X os e m) : PM X os e (cE X.K X.mg os m) m := by
  obtain ⟨te, p, s⟩ := h
  exact ⟨⟨fun pins sh σ H Q I ⟨C, G, env, d, J, w⟩ => p.run pins sh σ H Q I (s C G σ H env d Q J w)⟩, fun C G σ H env d Q I w => ⟨C, G, env, d, I, w⟩⟩
theorem QMTs.can (h : QMTs X os es n) : PMTs X os es (cT X.K X.mg os n) n := by
  obtain ⟨te, p, s⟩ := h
  exact ⟨⟨fun pins sh σ H Q I ⟨C, G, env, d, J, w⟩ => p.run pins sh σ H Q I (s C G σ H env d Q J w)⟩, fun C G σ H env d Q I w => ⟨C, G, env, d, I, w⟩⟩
theorem QMG.can (h : QMG X os tv e t) : PMG X os tv e (cG X.K X.mg os tv t) t := by
  obtain ⟨g, p, s⟩ := h
  exact ⟨⟨fun pins sh σ H v u Q I r ⟨C, G, env, d, x, e, J, rx, ht, k⟩ => p.run pins sh σ H v u Q I r (s C G σ H env d v x e Q J rx ht k)⟩, fun C G σ H env d v x e Q I r ht k => ⟨C, G, env, d, x, e, I, r, ht, k⟩⟩
end
section
variable {X : Cx} {fr : Bool} {os os' ol tv : List Nat} {e c tg iter elt kx vx : Expr} {es ifs : List Expr} {scope : Scope} {m me mk mv : Ev → M D} {mi : Ev → M (List D)} {n : Ev → M Bool} {mb : Ev → M Ctl} {t : Ev → D → Option Ev} {pos : Pos} {body : List Stmt} {y : Str}
theorem q_for (hp : PassesOwn (model X.prog X.w) X.A X.env X.xe) (hc : X.calm = true) (hi : QMI X os tg iter mi) (hg : QMG X os tv tg t) (hb : PMSs X fr os os os body mb) (hs : ∀ x, foldedSetIterable iter X.env x = pure x := by intro _; rfl) : PMS X fr os os ol (.For tg iter body [] pos) (cFor mi t mb) := by
  obtain ⟨_, hi⟩ := hi
  obtain ⟨_, hg⟩ := hg
  exact pms_for hp hc hi hg hb hs
theorem q_while (hp : PassesOwn (model X.prog X.w) X.A X.env X.xe) (hc : QMT X os c n) (hb : PMSs X fr os os os body mb) : PMS X fr os os ol (.While c body [] pos) (cWhile n mb) := by
  obtain ⟨_, hc⟩ := hc
  exact pms_while hp hc hb
theorem qs_if {a b : List Stmt} {ma mb2 : Ev → M Ctl} (hc : QMT X os c n) (ha : PMSs X fr os os' ol a ma) (hb : PMSs X fr os os' ol b mb2) : PMS X fr os os' ol (.If c a b pos) (cIf n ma mb2) := by
  obtain ⟨_, hc⟩ := hc
  exact pms_if hc ha hb
theorem qf_lc (own : List (Str × Nat)) (hc : X.calm = true) (hN : X.N.Nodup) (hi : QMI X os tg iter mi) (ok : BlkOk X.N X.env.scope scope own) (hv : ∀ j ∈ tv, j ∈ own.map (·.2))
    (hg : ∀ (s : Shared) (H : Hp) (C : Addr) (cl : List (Str × Addr)) (fp : List Addr), QMG (X.blk s H scope (compEnvC scope cl C X.env) fp) os tv tg t)
    (ht : ∀ (s : Shared) (H : Hp) (C : Addr) (cl : List (Str × Addr)) (fp : List Addr), QMTs (X.blk s H scope (compEnvC scope cl C X.env) fp) os ifs n)
    (he : ∀ (s : Shared) (H : Hp) (C : Addr) (cl : List (Str × Addr)) (fp : List Addr), QM (X.blk s H scope (compEnvC scope cl C X.env) fp) os elt me) (hs : ∀ x, foldedSetIterable iter X.env x = pure x := by intro _; rfl) :
    QMF X os (.ListComp elt [⟨tg, iter, ifs, 0⟩] scope pos) (eLc mi (own.map (·.2)) t n me) := by
  obtain ⟨_, hi⟩ := hi
  exact ⟨_, pmf_lc own hc hN hi ok hv (g := cG X.K X.mg os tv t) (tt := cT X.K X.mg os n) (te := cE X.K X.mg os me) (fun s H C cl fp => (hg s H C cl fp).can) (fun s H C cl fp => (ht s H C cl fp).can) (fun s H C cl fp => (he s H C cl fp).can) hs⟩
theorem qf_dc (own : List (Str × Nat)) (hc : X.calm = true) (hN : X.N.Nodup) (hi : QMI X os tg iter mi) (ok : BlkOk X.N X.env.scope scope own) (hv : ∀ j ∈ tv, j ∈ own.map (·.2))
    (hg : ∀ (s : Shared) (H : Hp) (C : Addr) (cl : List (Str × Addr)) (fp : List Addr), QMG (X.blk s H scope (compEnvC scope cl C X.env) fp) os tv tg t)
    (ht : ∀ (s : Shared) (H : Hp) (C : Addr) (cl : List (Str × Addr)) (fp : List Addr), QMTs (X.blk s H scope (compEnvC scope cl C X.env) fp) os ifs n)
    (hk : ∀ (s : Shared) (H : Hp) (C : Addr) (cl : List (Str × Addr)) (fp : List Addr), QM (X.blk s H scope (compEnvC scope cl C X.env) fp) os kx mk)
    (he : ∀ (s : Shared) (H : Hp) (C : Addr) (cl : List (Str × Addr)) (fp : List Addr), QM (X.blk s H scope (compEnvC scope cl C X.env) fp) os vx mv) (hs : ∀ x, foldedSetIterable iter X.env x = pure x := by intro _; rfl) :
    QMF X os (.DictComp kx vx [⟨tg, iter, ifs, 0⟩] scope pos) (eDc mi (own.map (·.2)) t n mk mv) := by
  obtain ⟨_, hi⟩ := hi
  exact ⟨_, pmf_dc own hc hN hi ok hv (g := cG X.K X.mg os tv t) (tt := cT X.K X.mg os n) (tk := cE X.K X.mg os mk) (te := cE X.K X.mg os mv) (fun s H C cl fp => (hg s H C cl fp).can) (fun s H C cl fp => (ht s H C cl fp).can) (fun s H C cl fp => (hk s H C cl fp).can) (fun s H C cl fp => (he s H C cl fp).can) hs⟩
/-- x = [..] on one line: a slot of one's own, a slot that may be shared -/
theorem q_setLc (own : List (Str × Nat)) (i : Nat) {py spos : Pos} (hi' : i ∈ os) (hc : X.calm = true) (hN : X.N.Nodup) (hy : X.N[i]? = some y) (hyl : X.env.scope.names.lookup y = some .local)
    (hsw : swapsWith (.ListComp elt [⟨tg, iter, ifs, 0⟩] scope pos) (some (.Name y py)) spos.line X.env = pure true) (hi : QMI X os tg iter mi) (ok : BlkOk X.N X.env.scope scope own) (hv : ∀ j ∈ tv, j ∈ own.map (·.2))
    (hg : ∀ (s : Shared) (H : Hp) (C : Addr) (cl : List (Str × Addr)) (fp : List Addr), QMG (X.blk s H scope (compEnvC scope cl C X.env) fp) os tv tg t)
    (ht : ∀ (s : Shared) (H : Hp) (C : Addr) (cl : List (Str × Addr)) (fp : List Addr), QMTs (X.blk s H scope (compEnvC scope cl C X.env) fp) os ifs n)
    (he : ∀ (s : Shared) (H : Hp) (C : Addr) (cl : List (Str × Addr)) (fp : List Addr), QM (X.blk s H scope (compEnvC scope cl C X.env) fp) os elt me) (hs : ∀ x, foldedSetIterable iter X.env x = pure x := by intro _; rfl) :
    PMS X fr os os ol (.Assign [.Name y py] (.ListComp elt [⟨tg, iter, ifs, 0⟩] scope pos) spos) (cSet i (eLc mi (own.map (·.2)) t n me)) := by
  obtain ⟨_, hi⟩ := hi
  exact pms_setLc own i hi' hc hN hy hyl hsw hi ok hv (g := cG X.K X.mg os tv t) (tt := cT X.K X.mg os n) (te := cE X.K X.mg os me) (fun s H C cl fp => (hg s H C cl fp).can) (fun s H C cl fp => (ht s H C cl fp).can) (fun s H C cl fp => (he s H C cl fp).can) hs
theorem q_setLcS (own : List (Str × Nat)) (i : Nat) {py spos : Pos} (hi' : i ∉ os) (hc : X.calm = true) (hN : X.N.Nodup) (hy : X.N[i]? = some y) (hyl : X.env.scope.names.lookup y = some .local)
    (hsw : swapsWith (.ListComp elt [⟨tg, iter, ifs, 0⟩] scope pos) (some (.Name y py)) spos.line X.env = pure true) (hi : QMI X os tg iter mi) (ok : BlkOk X.N X.env.scope scope own) (hv : ∀ j ∈ tv, j ∈ own.map (·.2))
    (hg : ∀ (s : Shared) (H : Hp) (C : Addr) (cl : List (Str × Addr)) (fp : List Addr), QMG (X.blk s H scope (compEnvC scope cl C X.env) fp) os tv tg t)
    (ht : ∀ (s : Shared) (H : Hp) (C : Addr) (cl : List (Str × Addr)) (fp : List Addr), QMTs (X.blk s H scope (compEnvC scope cl C X.env) fp) os ifs n)
    (he : ∀ (s : Shared) (H : Hp) (C : Addr) (cl : List (Str × Addr)) (fp : List Addr), QM (X.blk s H scope (compEnvC scope cl C X.env) fp) os elt me) (hs : ∀ x, foldedSetIterable iter X.env x = pure x := by intro _; rfl) :
    PMS X fr os os ol (.Assign [.Name y py] (.ListComp elt [⟨tg, iter, ifs, 0⟩] scope pos) spos) (cSet i (eLc mi (own.map (·.2)) t n me)) := by
  obtain ⟨_, hi⟩ := hi
  exact pms_setLcS own i hi' hc hN hy hyl hsw hi ok hv (g := cG X.K X.mg os tv t) (tt := cT X.K X.mg os n) (te := cE X.K X.mg os me) (fun s H C cl fp => (hg s H C cl fp).can) (fun s H C cl fp => (ht s H C cl fp).can) (fun s H C cl fp => (he s H C cl fp).can) hs
end
section
variable {X : Cx} {os : List Nat} {e : Expr} {es : List Expr} {ms : Ev → M (List D)} {p pos : Pos} {k n : Nat} {x : Str} {mf : List D → M D} {dd : D}
theorem pm_fDq (h : HasD (spM X.K X.mg) X.prog X.w X.K X.mg X.base k x n mf dd) (hr : Room k X.A) (hg : Gl X x) (ha : QMA X os (e :: es) ms)
    (hdb : (x == ("__debug__" : Str)) = false := by decide) (he : starEach (e :: es) X.env = (false, eval e X.env) :: starEach es X.env := by rfl) (hpl : (backTo pos (starEach es X.env)).any (·.1) = false := by rfl) : QM X os (.Call (.Name x p) (e :: es) [] pos) (eCallD n dd mf ms) := by
  obtain ⟨_, ha⟩ := ha
  exact pm_fD h hr hg ha hdb he hpl
theorem pmf_fDq (h : HasD (spN X.K X.mg) X.prog X.w X.K X.mg X.base k x n mf dd) (hr : Room k X.A) (hg : Gl X x) (ha : QMA X os (e :: es) ms)
    (hdb : (x == ("__debug__" : Str)) = false := by decide) (he : starEach (e :: es) X.env = (false, eval e X.env) :: starEach es X.env := by rfl) (hpl : (backTo pos (starEach es X.env)).any (·.1) = false := by rfl) : QMF X os (.Call (.Name x p) (e :: es) [] pos) (eCallD n dd mf ms) := by
  obtain ⟨_, ha⟩ := ha
  exact pmf_fD h hr hg ha hdb he hpl
end
section
variable {X : Cx} {os : List Nat} {e : Expr} {es : List Expr} {m : Ev → M D} {ms : Ev → M (List D)} {p pos : Pos} {k n : Nat} {x : Str} {mf : List D → M D}
theorem qal_nil : QMAL X os [] aNil := ⟨_, pal_nil⟩
theorem qal_cons (h : QM X os e m) (hr : QMAL X os es ms) (he : starEach (e :: es) X.env = (false, eval e X.env) :: starEach es X.env := by rfl) : QMAL X os (e :: es) (aCons m ms) := by
  obtain ⟨_, h⟩ := h
  obtain ⟨_, hr⟩ := hr
  exact ⟨_, pal_cons h hr he⟩
theorem qal_own (i : Nat) (hr : QMAL X os es ms) (hi : i ∈ os := by decide) (hN : X.N[i]? = some x := by rfl) (hv : Vis X.env.scope x := by first | exact Or.inl rfl | exact Or.inr (Or.inl rfl) | exact Or.inr (Or.inr rfl)) (hd : (x == ("__debug__" : Str)) = false := by decide)
    (hcd : (x == ("__classdict__" : Str)) = false := by decide) (he : starEach (.Name x p :: es) X.env = (false, eval (.Name x p) X.env) :: starEach es X.env := by rfl) : QMAL X os (.Name x p :: es) (aLend i ms) := by
  obtain ⟨_, hr⟩ := hr
  exact ⟨_, pal_own i hr hi hN hv hd hcd he⟩
theorem pm_fLq (h : Has X.prog X.w X.K X.mg X.base k x n mf) (hr : Room k X.A) (hg : Gl X x) (ha : QMAL X os (e :: es) ms)
    (hdb : (x == ("__debug__" : Str)) = false := by decide) (he : starEach (e :: es) X.env = (false, eval e X.env) :: starEach es X.env := by rfl) (hpl : (backTo pos (starEach es X.env)).any (·.1) = false := by rfl) : QM X os (.Call (.Name x p) (e :: es) [] pos) (eCallL n mf ms) := by
  obtain ⟨_, ha⟩ := ha
  exact ⟨_, pm_fL h hr hg ha hdb he hpl⟩
end
end Mir
end
section
set_option Elab.async false
set_option linter.all false
set_option maxRecDepth 100000
set_option maxHeartbeats 1000000
/-! Mir, the head: a law whose def is promised where no repr is under way. -/
namespace Mir
open PySem PySem.Spec PyProof.Rows L2
section
variable {P : Program} {w : World} {K : PySem.W.Frag} {mg mb : Str → Option Value} {k : Nat} {fa sc : Addr} {fd : FuncData} {x : Str} {sp : Sp} {t : Shared} {us : List Value} {zs : List Int}
/-- from one abstract heap -/
theorem law_core (KX : K.In t.heap) (hns : t.heap.Ns mainGlobals mg) (hb : t.heap.Ns builtinsNs mb) (hbb : ∀ y : Str, y ≠ "__name__" → mb y = bootBuiltins y) (hlim : t.heap.NoLimit) (hg : t.gens = #[])
    (ho : t.heap.get? sc = some { cls := .type "list", data := .seq us.toArray }) (hr : Room k callerA)
    (F : ∀ base : Heap, K.In base → base.Ns mainGlobals mg → FnG P w K mg base k fa fd [x] sp) (hbind : ∀ (s : Shared) (u : Value), BindsTo s fd ⟨[u], []⟩ [(x, u)])
    (H : Hp) (only : Only H) (hsp : sp [.ref sc] H (fun v _ => v = .bl true) fun _ _ _ => False) (hok : HOk P w H t.heap) (one : ∀ b, H b ≠ none → b = sc) (out : H sc ≠ none → K.lookup sc = none) :
    codeAny (model P w) callerA (.call (.ref fa) ⟨[.ref sc], []⟩) (fun r s' => r = .ok (.ret (.bool true)) ∧ OldK t.heap s'.heap ∧ s'.os = t.os ∧ AllBare s'.gens) t := by
  have stays : ∀ {b : Addr} {ob : Obj}, t.heap.get? b = some ob → H b = none → (hidT t.heap H).get? b = some ob := fun q n => hidT_get q n
  have noDict : ∀ {b : Addr} {ob : Obj} {es : Array DictEntry} {ep : Nat}, t.heap.get? b = some ob → ob.data = .dict es ep → H b = none := by
    intro b ob es ep q dd
    by_cases hb : H b = none
    · exact hb
    · have z := one b hb
      rw [z, ho] at q
      cases q
      cases dd
  have names : ∀ {b : Addr} {m : Str → Option Value}, t.heap.Ns b m → (hidT t.heap H).Ns b m := fun {b m} ⟨ob, es, ep, q, dd, r⟩ => ⟨ob, es, ep, stays q (noDict q dd), dd, r⟩
  have inB : K.In (hidT t.heap H) := by
    intro b ob q
    refine stays (KX b ob q) ?_
    by_cases hb : H b = none
    · exact hb
    · have z := one b hb
      rw [z] at q hb
      rw [out hb] at q
      cases q
  have modB : Mod K mg (hidT t.heap H) := ⟨inB, names hns, ⟨mb, names hb, hbb⟩, by
    obtain ⟨mc, c1, c2⟩ := hlim
    exact ⟨mc, names c1, c2⟩⟩
  have env : Env0 P w K mg (hidT t.heap H) callerA [] t H := ⟨rfl, modB, fun b ob q => of_hidT q, Nat.le_of_eq (hidT_size _ _), trivial, fun b hb => (nomatch hb), hok, .of_eq hg⟩
  refine codeAny_mono ((F _ inB (names hns)).run callerA [] t H ⟨[.ref sc], []⟩ [.ref sc] [.ref sc] _ _ hr rfl env (hbind t (.ref sc)) (.cons rfl .nil) hsp) fun r s' q => ?_
  cases r with
  | error e =>
    have q : CX0 [] H t (fun _ _ _ => False) e s' := q
    exact q.elim
  | ok fl =>
    cases fl with
    | ret u =>
      obtain ⟨v, H', e1, e2, un, hok', rv, ev⟩ := q
      have ev : v = .bl true := ev
      subst ev
      cases (show u = Value.bool true from rv)
      refine ⟨rfl, OldK.of_keep fun b ob q => ?_, e1, e2⟩
      rcases only b with z | ⟨o2, xs, z⟩
      · exact un.keep b ob q z (fun z => (nomatch z)) fun z => (nomatch z)
      · have a1 := (hok b _ z).1
        have a2 := (hok' b _ (un.frzs b o2 _ z)).1
        rw [q] at a1
        cases a1
        exact a2
    | _ => exact False.elim q
theorem law_callG (KX : K.In t.heap) (hns : t.heap.Ns mainGlobals mg) (hb : t.heap.Ns builtinsNs mb) (hbb : ∀ y : Str, y ≠ "__name__" → mb y = bootBuiltins y) (hlim : t.heap.NoLimit) (hg : t.gens = #[])
    (ho : t.heap.get? sc = some { cls := .type "list", data := .seq us.toArray }) (hi : IntsAre us zs) (hl : zs.length ≤ sizeLine) (hr : Room k callerA)
    (F : ∀ base : Heap, K.In base → base.Ns mainGlobals mg → FnG P w K mg base k fa fd [x] sp) (hbind : ∀ (s : Shared) (u : Value), BindsTo s fd ⟨[u], []⟩ [(x, u)])
    (hsp : ∀ H : Hp, Only H → SqL K H sc (zs.map V.int) → sp [.ref sc] H (fun v _ => v = .bl true) fun _ _ _ => False) :
    codeAny (model P w) callerA (.call (.ref fa) ⟨[.ref sc], []⟩) (fun r s' => r = .ok (.ret (.bool true)) ∧ OldK t.heap s'.heap ∧ s'.os = t.os ∧ AllBare s'.gens) t := by
  have rel := vals_ints hi
  cases hk : K.lookup sc with
  | some ob =>
    have q := KX sc ob hk
    rw [ho] at q
    cases q
    have e0 : Only fun _ => none := fun _ => .inl rfl
    exact law_core KX hns hb hbb hlim hg ho hr F hbind _ e0 (hsp _ e0 (.inr ⟨_, us.toArray, _, hk, rfl, rfl, rfl, by rw [List.size_toArray, hi.length]; exact hl, by simpa using rel⟩)) (fun b u z => by cases z) (fun b z => absurd rfl z) fun z => absurd rfl z
  | none =>
    let H : Hp := fun b => if b = sc then some (.frz { cls := .type "list", data := .seq us.toArray } (.lst (zs.map V.int))) else none
    have at_ : H sc = some (.frz { cls := .type "list", data := .seq us.toArray } (.lst (zs.map V.int))) := if_pos rfl
    have off : ∀ b, b ≠ sc → H b = none := fun b hb => if_neg hb
    have e0 : Only H := fun b => by
      by_cases hb : b = sc
      · subst hb; exact .inr ⟨_, _, at_⟩
      · exact .inl (off b hb)
    refine law_core KX hns hb hbb hlim hg ho hr F hbind H e0 (hsp H e0 (.inl (.inr ⟨_, at_⟩))) (fun b u z => ?_) (fun b z => Classical.byContradiction fun n => z (off b n)) fun _ => hk
    by_cases hb : b = sc
    · subst hb
      rw [at_] at z
      cases z
      exact ⟨ho, by rw [List.length_map]; exact hl, us, _, rel, ho⟩
    · rw [off b hb] at z
      cases z
end
theorem walk_ofG {l : PySem.W.OpenLaw} {n k : Nat} {q : Program} {loose : List Str} {XP : (Str → Option Value) → Heap → Prop} {YP : World → Heap → Prop} {d : DefRec} {K : Params → PySem.W.Frag} {sp : PySem.W.Frag → Sp} {x : Str} (hn : l.most = some n) (hn2 : n ≤ sizeLine) (hdf : d.params.defaults = []) (hr : Room k callerA) (hY : ∀ (w : World) (h : Heap), YP w h → (K w.params).In h)
    (F : ∀ (w : World) (mg : Str → Option Value) (fa : Addr) (h : Heap), (K w.params).In h → h.Ns mainGlobals mg → mg d.name = some (.ref fa) → ∃ fd : FuncData, (∀ (s : Shared) (u : Value), BindsTo s fd ⟨[u], []⟩ [(x, u)]) ∧
        ∀ base : Heap, (K w.params).In base → base.Ns mainGlobals mg → FnG l.prog w (K w.params) mg base k fa fd [x] (sp (K w.params)))
    (hsp : ∀ (K : PySem.W.Frag) (H : Hp) (a : Addr) (ns : List Int), ns.length ≤ n → (∀ z ∈ ns, Builtin.Int.intBits z ≤ 1048576) → Only H → SqL K H a (ns.map V.int) → sp K [.ref a] H (fun v _ => v = .bl true) fun _ _ _ => False) :
    PySem.W.WalkO q loose XP YP l.row.toRowW d [] (fun f vs => PySem.call f vs) := by
  refine Att.attach_callB hn hdf fun w s₀ s₁ mg mb fa o pm cd doc a vs ns G Y ho hd hcd hmg hobj hints hlen hbits hg => ?_
  obtain ⟨fd, hb, hF⟩ := F w mg fa _ (hY w _ Y) G.T.g hmg
  exact law_callG (hY w _ Y) G.T.g G.T.b G.T.builtins G.T.nolimit hg hobj hints (Nat.le_trans hlen hn2) hr hF hb fun H hO hS => hsp _ H a ns hlen hbits hO hS
/-! ### behind the law's first statement -/
def gOf (H : Hp) (a : Addr) : Hp := fun b => if b = a then H b else none
theorem IM.law {K : PySem.W.Frag} {mg : Str → Option Value} {a : Addr} {ns : List Int} {S : SA} {H H' : Hp} {d : Drw} (n : Nat) (hS : SqL K H a (ns.map V.int)) (st : StR S H' d) (keep : ∀ b o, H b = some o → H' b = some o) (n1 : H S.s = none) (n2 : H S.g = none) (n3 : H S.c = none) (hL : ∀ b, S.L b = none) :
    IM K mg ⟨S, gOf H a, H'⟩ [] (some (D.ro (ns.map D.int)) :: some .st :: List.replicate n none) (some (.ref a) :: some (.ref S.s) :: List.replicate n none) H' (gOf H a) d := by
  have ga : gOf H a a = H a := if_pos rfl
  have sub : Sub S (gOf H a) H' := fun b o e => by
    unfold gOf at e
    split at e
    · refine ⟨keep b o e, fun z => ?_⟩
      rcases z with z | z | z | z
      · rw [z, n1] at e; cases e
      · rw [z, n2] at e; cases e
      · rw [z, n3] at e; cases e
      · exact z (hL b)
    · cases e
  have hG : SqL K (gOf H a) a (ns.map V.int) := by
    rcases hS with (h | ⟨o, h⟩) | h
    · exact .inl (.inl (ga.trans h))
    · exact .inl (.inr ⟨o, ga.trans h⟩)
    · exact .inr h
  have ri : ∀ zs : List Int, Reps K mg S (gOf H a) (zs.map V.int) (zs.map D.int) := fun zs => by
    induction zs with
    | nil => exact .nil
    | cons z r ih => exact .cons (.int z) ih
  exact {
    aft := Aft.refl st sub
    len := by simp
    sh := fun i x _ e => by
      match i, e with
      | 0, e => cases e; exact ⟨_, rfl, .ro hG (ri ns)⟩
      | 1, e => cases e; exact ⟨_, rfl, .st⟩
      | i + 2, e =>
        rw [List.getElem?_cons_succ, List.getElem?_cons_succ, List.getElem?_replicate] at e
        split at e <;> cases e
    ow := fun i x hi => (nomatch hi)
    dis := fun i j x y b hi => (nomatch hi) }
def absI (c : Int) : Int := if c < 0 then -c else c
def begunD (ns : List Int) : Drw := ⟨0, (ns.filter fun c => decide ((10 : Int) ^ 18 ≤ absI c)).map fun c => absI c / 10 ^ 18, ns.map fun c => absI c % 10 ^ 18, 0⟩
def spBegun (K : PySem.W.Frag) : Sp := fun vs H Q _ => ∃ (a : Addr) (ns : List Int), vs = [.ref a] ∧ SqL K H a (ns.map V.int) ∧ ns.length ≤ 1000 ∧ ∀ S H', StR S H' (begunD ns) → (∀ b o, H b = some o → H' b = some o) → H S.s = none → H S.g = none → H S.c = none → (∀ b, S.L b = none) → Q (.ref S.s) H'
def spLaw (K : PySem.W.Frag) : Sp := fun vs H Q _ => ∃ (a : Addr) (ns : List Int), vs = [.ref a] ∧ SqL K H a (ns.map V.int) ∧ ns.length ≤ 1000 ∧ ∀ H', Q (.bl true) H'
end Mir
end
section
set_option Elab.async false
set_option linter.all false
set_option maxRecDepth 100000
set_option maxHeartbeats 400000
/-! rules that evaluate a mirror that draws nothing -/
namespace Mir
open PySem PySem.Spec PyProof.Rows L2
section
variable {ma mb mc m mo : Ev → M D} {n na nb : Ev → M Bool} {a b : Ev → M Ctl} {ms mk : Ev → M (List D)} {env e : Ev} {x y z w : D} {xs ys ds : List D} {g g2 : D → D → M D} {u : D → M D} {g3 : D → D → D → M D} {t t1 t2 : Bool} {i j k nn : Nat} {r : M Ctl} {f : List D → M D} {q q2 : Int} {l h' : Ev → M (Option Int)} {lo hi : Option Int}
theorem ev_var (h : env[i]? = some (some x)) : eVar i env = pure x := by unfold eVar; rw [h]
theorem ev_c : eC x env = pure x := rfl
theorem ev_bin (h1 : ma env = pure x) (h2 : mb env = pure y) (h : g x y = pure z) : eBin g ma mb env = pure z := by
  unfold eBin; rw [h1, pure_bind', h2, pure_bind', h]
theorem ev_un (h1 : m env = pure x) (h : u x = pure z) : eUn u m env = pure z := by unfold eUn; rw [h1, pure_bind', h]
theorem ev_neg (h : m env = pure (.int q)) : eNeg m env = pure (.int (-q)) := by unfold eNeg; rw [h]; rfl
theorem ev_tB (h : m env = pure (.bl t)) : tB' m env = pure t := by unfold tB'; rw [h]; rfl
theorem ev_tAnd (h1 : na env = pure t1) (h2 : t1 = true → nb env = pure t2) : tAnd' na nb env = pure (t1 && t2) := by
  unfold tAnd'; rw [h1, pure_bind']
  cases t1 with
  | true => rw [if_pos rfl, h2 rfl]; rfl
  | false => rfl
theorem ev_tOr (h1 : na env = pure t1) (h2 : t1 = false → nb env = pure t2) : tOr' na nb env = pure (t1 || t2) := by
  unfold tOr'; rw [h1, pure_bind']
  cases t1 with
  | true => rfl
  | false => rw [if_neg (by decide), h2 rfl]; rfl
theorem ev_tNot (h : na env = pure t) : tNot' na env = pure (!t) := by unfold tNot'; rw [h]; rfl
theorem ev_and (h1 : ma env = pure (.bl t1)) (h2 : t1 = true → mb env = pure (.bl t2)) : eAnd ma mb env = pure (.bl (t1 && t2)) := by
  unfold eAnd; rw [h1, pure_bind']
  cases t1 with
  | true => exact h2 rfl
  | false => rfl
theorem ev_or (h1 : ma env = pure (.bl t1)) (h2 : t1 = false → mb env = pure (.bl t2)) : eOr ma mb env = pure (.bl (t1 || t2)) := by
  unfold eOr; rw [h1, pure_bind']
  cases t1 with
  | true => rfl
  | false => exact h2 rfl
theorem ev_not (h : ma env = pure (.bl t)) : eNot ma env = pure (.bl (!t)) := by unfold eNot; rw [h]; rfl
theorem ev_if (h : n env = pure t) (h1 : t = true → ma env = pure x) (h2 : t = false → mb env = pure y) : eIf n ma mb env = pure (if t = true then x else y) := by
  unfold eIf; rw [h, pure_bind']
  cases t with
  | true => exact h1 rfl
  | false => exact h2 rfl
theorem ev_nil : aNil env = pure [] := rfl
theorem ev_cons (h1 : m env = pure x) (h2 : ms env = pure xs) : aCons m ms env = pure (x :: xs) := by unfold aCons; rw [h1, pure_bind', h2]; rfl
theorem ev_tup (h : ms env = pure xs) (hl : decide (xs.length ≤ sizeLine) = true) : eTup ms env = pure (.tup xs) := by unfold eTup; rw [h, pure_bind', guard_of hl]
theorem ev_lst (h : ms env = pure xs) (hl : decide (xs.length ≤ sizeLine) = true) : eLst ms env = pure (.lst xs) := by unfold eLst; rw [h, pure_bind', guard_of hl]
theorem ev_call (h : ms env = pure xs) (hl : (xs.length == nn) = true) (h2 : f xs = pure z) : eCall nn f ms env = pure z := by unfold eCall; rw [h, pure_bind', guard_of hl, h2]
theorem ev_callK {ix : List Nat} (h : ms env = pure xs) (hl : (xs.length == nn) = true) (h2 : f (permL ix xs) = pure z) : eCallK nn ix f ms env = pure z := by unfold eCallK; rw [h, pure_bind', guard_of hl, h2]
theorem ev_fld {c fl : Str} {fs : List (Str × D)} (h : mo env = pure (.obj c fs)) (h2 : fs.lookup fl = some y) : eFld c fl mo env = pure y := by
  unfold eFld; rw [h, pure_bind']
  show guardB (decide (c = c)) _ = _
  rw [guard_of (decide_eq_true rfl), h2]
theorem ev_meth {c mt : Str} {fs : List (Str × D)} (h : mo env = pure (.obj c fs)) (hn : fs.lookup mt = none) (h1 : ms env = pure xs) (hl : (xs.length + 1 == nn) = true) (h2 : f (.obj c fs :: xs) = pure z) : eMeth c mt nn f mo ms env = pure z := by
  unfold eMeth; rw [h, pure_bind']
  show guardB (decide (c = c) && (fs.lookup mt).isNone) _ = _
  rw [guard_of (by rw [hn, decide_eq_true rfl]; rfl), h1, pure_bind', guard_of hl, h2]
theorem ev_chain (h1 : ma env = pure x) (h2 : mb env = pure y) (h : g x y = pure (.bl t1)) (h3 : t1 = true → mc env = pure z) (h4 : t1 = true → g2 y z = pure (.bl t2)) : eChain g g2 ma mb mc env = pure (.bl (t1 && t2)) := by
  unfold eChain
  rw [h1, pure_bind', h2, pure_bind', h, pure_bind']
  cases t1 with
  | true =>
    show (mc env >>= fun w => g2 y w) = _
    rw [h3 rfl, pure_bind', h4 rfl]; rfl
  | false => rfl
theorem ev_tri (h1 : ma env = pure x) (h2 : mb env = pure y) (h3 : mc env = pure z) (h : g3 x y z = pure w) : eTri g3 ma mb mc env = pure w := by
  unfold eTri; rw [h1, pure_bind', h2, pure_bind', h3, pure_bind', h]
theorem ev_sl (h : m env = pure x) (h1 : l env = pure lo) (h2 : h' env = pure hi) (h3 : dSl x lo hi = pure z) : eSl m l h' env = pure z := by
  unfold eSl; rw [h, pure_bind', h1, pure_bind', h2, pure_bind', h3]
theorem ev_oNone : oNone env = pure none := rfl
theorem ev_oSome (h : m env = pure (.int q)) : oSome m env = pure (some q) := by unfold oSome; rw [h]; rfl
theorem ev_iOn {fi : D → M (List D)} (h : m env = pure x) (h2 : fi x = pure xs) : iOn fi m env = pure xs := by unfold iOn; rw [h, pure_bind', h2]
theorem ev_iOns {fi : List D → M (List D)} (h : ms env = pure ys) (h2 : fi ys = pure xs) : iOns fi ms env = pure xs := by unfold iOns; rw [h, pure_bind', h2]
theorem ev_iRange (h : ms env = pure ys) (h2 : dRange ys = pure xs) : iRange ms env = pure xs := by unfold iRange; rw [h, pure_bind', h2]
theorem ev_lc {tg : Ev → D → Option Ev} {vs : List Nat} (h : ms env = pure ds) (h2 : lcGo (wipeE env vs) tg n m ds [] = pure ys) : eLc ms vs tg n m env = pure (.lst ys) := by
  unfold eLc; rw [h, pure_bind', h2]; rfl
theorem ev_dc {tg : Ev → D → Option Ev} {vs : List Nat} {kvs : List (Key × D)} (h : ms env = pure ds) (h2 : dcGo (wipeE env vs) tg n ma mb ds [] = pure kvs) : eDc ms vs tg n ma mb env = pure (.dic kvs) := by
  unfold eDc; rw [h, pure_bind', h2]; rfl
theorem ev_nYes : nYes env = pure true := rfl
theorem ev_mk {c : Str} {nk : Nat} {f : List D → M (List (Str × D))} {fs : List (Str × D)} (h1 : ms env = pure xs) (h2 : mk env = pure ys) (hl : (xs.length == nn && ys.length == nk) = true) (h : f (xs ++ ys) = pure fs) : eMk c nn nk f ms mk env = pure (.obj c fs) := by
  unfold eMk; rw [h1, pure_bind', h2, pure_bind', guard_of hl, h]; rfl
theorem ev_zip (h : ms env = pure [.lst xs, .lst ys]) (hl : xs.length = ys.length) : aZip ms env = pure (.lst (tups2 xs ys)) := by
  unfold aZip; rw [h, pure_bind']
  show guardB (decide (xs.length = ys.length)) _ = _
  rw [guard_of (decide_eq_true hl)]
/-! statements -/
theorem st_seq (h : a env = pure (.nx e)) (h2 : b e = r) : cSeq a b env = r := by unfold cSeq; rw [h, pure_bind']; exact h2
theorem st_seqr (h : a env = pure (.ret x)) : cSeq a b env = pure (.ret x) := by unfold cSeq; rw [h]; rfl
theorem st_ret (h : m env = pure x) : cRet m env = pure (.ret x) := by unfold cRet; rw [h]; rfl
theorem st_set (h : m env = pure x) : cSet i m env = pure (.nx (env.set i (some x))) := by unfold cSet; rw [h]; rfl
theorem st_drop (h : m env = pure x) : cDrop m env = pure (.nx env) := by unfold cDrop; rw [h]; rfl
theorem st_nx : cNx env = pure (.nx env) := rfl
theorem st_ift (h : n env = pure t) (ht : t = true) (h2 : a env = r) : cIf n a b env = r := by unfold cIf; rw [h, pure_bind', ht, if_pos rfl, h2]
theorem st_iff (h : n env = pure t) (ht : t = false) (h2 : b env = r) : cIf n a b env = r := by unfold cIf; rw [h, pure_bind', ht, if_neg (by decide), h2]
theorem st_par2 (h1 : ma env = pure x) (h2 : mb env = pure y) : cPar2 i j ma mb env = pure (.nx ((env.set i (some x)).set j (some y))) := by unfold cPar2; rw [h1, pure_bind', h2]; rfl
theorem st_par3 (h1 : ma env = pure x) (h2 : mb env = pure y) (h3 : mc env = pure z) : cPar3 i j k ma mb mc env = pure (.nx (((env.set i (some x)).set j (some y)).set k (some z))) := by unfold cPar3; rw [h1, pure_bind', h2, pure_bind', h3]; rfl
theorem st_app (h : m env = pure y) (h2 : env[i]? = some (some (.lst xs))) (hl : xs.length < sizeLine) : cApp i m env = pure (.nx (env.set i (some (.lst (xs ++ [y]))))) := by
  unfold cApp; rw [h, pure_bind', h2]
  show guardB _ _ = _
  rw [guard_of (decide_eq_true hl)]
theorem st_setL (h : m env = pure y) (h1 : ma env = pure (.int q)) (h2 : env[i]? = some (some (.lst xs))) (h3 : ixN xs.length q = some j) : cSetL i ma m env = pure (.nx (env.set i (some (.lst (xs.set j y))))) := by
  unfold cSetL; rw [h, pure_bind', h1, pure_bind', h2]
  show (match ixN xs.length q with
    | some j => pure (Ctl.nx (env.set i (some (.lst (xs.set j y)))))
    | none => bad) = _
  rw [h3]
theorem st_setD {kvs : List (Key × D)} {kk : Key} (h : m env = pure y) (h1 : ma env = pure x) (hk : keyD x = some kk) (h2 : env[i]? = some (some (.dic kvs))) (hl : kvs.length < sizeLine) : cSetD i ma m env = pure (.nx (env.set i (some (.dic (putD kvs kk y))))) := by
  unfold cSetD; rw [h, pure_bind', h1, pure_bind', hk, h2]
  show guardB _ _ = _
  rw [guard_of (decide_eq_true hl)]
theorem st_augD {kvs : List (Key × D)} {kk : Key} (h1 : ma env = pure x) (hk : keyD x = some kk) (h2 : env[i]? = some (some (.dic kvs))) (h3 : lookD kvs kk = some (.int q)) (h : m env = pure (.int q2)) (hl : kvs.length < sizeLine) : cAugD i ma m env = pure (.nx (env.set i (some (.dic (putD kvs kk (.int (q + q2))))))) := by
  unfold cAugD; rw [h1, pure_bind', hk, h2]
  show (match lookD kvs kk with
      | some (.int z) => m env >>= fun y => (match y with
        | .int y => guardB (decide (kvs.length < sizeLine)) (pure (Ctl.nx (env.set i (some (.dic (putD kvs kk (.int (z + y))))))))
        | _ => bad)
      | _ => bad) = _
  rw [h3]
  show (m env >>= fun y => (match y with
        | .int y => guardB (decide (kvs.length < sizeLine)) (pure (Ctl.nx (env.set i (some (.dic (putD kvs kk (.int (q + y))))))))
        | _ => bad)) = _
  rw [h, pure_bind']
  show guardB _ _ = _
  rw [guard_of (decide_eq_true hl)]
theorem st_clr {kvs : List (Key × D)} (h2 : env[i]? = some (some (.dic kvs))) : cClr i env = (pure (Ctl.nx (env.set i (some (D.dic [])))) : M Ctl) := by
  unfold cClr; rw [h2]
theorem st_for {tg : Ev → D → Option Ev} (h : ms env = pure ds) (h2 : forGo tg b ds env = r) : cFor ms tg b env = r := by unfold cFor; rw [h, pure_bind', h2]
theorem def_ret (h : a (ds.map some ++ List.replicate (nn - ds.length) none) = pure (.ret x)) : defM nn a ds = pure x := by unfold defM; rw [h]; rfl
theorem def_nx (h : a (ds.map some ++ List.replicate (nn - ds.length) none) = pure (.nx e)) : defM nn a ds = pure .non := by unfold defM; rw [h]; rfl
/-! fields of a new object -/
theorem in_if {rr : Ev → List (Str × D) → M (List (Str × D))} {fs : List (Str × D)} {rs : M (List (Str × D))} (h : n env = pure t) (ht : t = false) (h2 : rr env fs = rs) : nIf n rr env fs = rs := by unfold nIf; rw [h, pure_bind', ht, if_neg (by decide), h2]
theorem in_fld {fl : Str} {rr : Ev → List (Str × D) → M (List (Str × D))} {fs : List (Str × D)} {rs : M (List (Str × D))} (h : m env = pure y) (hl : decide (fs.length < 1000) = true) (h2 : rr env (putFD fl y fs) = rs) : nFld fl m rr env fs = rs := by unfold nFld; rw [h, pure_bind', guard_of hl, h2]
end
/-! loops -/
theorem lc_map {e0 : Ev} {tg : Ev → D → Option Ev} {n : Ev → M Bool} {me : Ev → M D} {f : D → D} : ∀ (xs acc : List D), (∀ x ∈ xs, ∃ e, tg e0 x = some e ∧ n e = pure true ∧ me e = pure (f x)) → acc.length + xs.length ≤ sizeLine → lcGo e0 tg n me xs acc = pure (acc ++ xs.map f)
  | [], acc, _, _ => by rw [List.map_nil, List.append_nil]; rfl
  | x :: xs, acc, h, hl => by
    obtain ⟨e, h1, h2, h3⟩ := h x (List.mem_cons_self ..)
    rw [List.length_cons] at hl
    simp only [lcGo, h1, h2, h3, pure_bind', if_true]
    rw [guard_of (decide_eq_true (by omega)), lc_map xs (acc ++ [f x]) (fun y hy => h y (List.mem_cons_of_mem _ hy)) (by rw [List.length_append, List.length_singleton]; omega)]
    rw [List.append_assoc, List.map_cons]; rfl
theorem lc_filter {e0 : Ev} {tg : Ev → D → Option Ev} {n : Ev → M Bool} {me : Ev → M D} {f : D → D} {p : D → Bool} : ∀ (xs acc : List D), (∀ x ∈ xs, ∃ e, tg e0 x = some e ∧ n e = pure (p x) ∧ (p x = true → me e = pure (f x))) → acc.length + xs.length ≤ sizeLine → lcGo e0 tg n me xs acc = pure (acc ++ (xs.filter p).map f)
  | [], acc, _, _ => by rw [List.filter_nil, List.map_nil, List.append_nil]; rfl
  | x :: xs, acc, h, hl => by
    obtain ⟨e, h1, h2, h3⟩ := h x (List.mem_cons_self ..)
    rw [List.length_cons] at hl
    simp only [lcGo, h1, h2, pure_bind']
    cases hp : p x with
    | true =>
      rw [if_pos rfl, h3 hp, pure_bind', guard_of (decide_eq_true (by omega)), lc_filter xs (acc ++ [f x]) (fun y hy => h y (List.mem_cons_of_mem _ hy)) (by rw [List.length_append, List.length_singleton]; omega)]
      rw [List.append_assoc, List.filter_cons_of_pos hp, List.map_cons]; rfl
    | false =>
      rw [if_neg (by decide), lc_filter xs acc (fun y hy => h y (List.mem_cons_of_mem _ hy)) (by omega), List.filter_cons_of_neg (by rw [hp]; decide)]
theorem dc_map {e0 : Ev} {tg : Ev → D → Option Ev} {n : Ev → M Bool} {mk mv : Ev → M D} {f : D → Key × D} : ∀ (xs : List D) (acc : List (Key × D)), (∀ x ∈ xs, ∃ e kd, tg e0 x = some e ∧ n e = pure true ∧ mk e = pure kd ∧ keyD kd = some (f x).1 ∧ mv e = pure (f x).2) → acc.length + xs.length ≤ sizeLine → dcGo e0 tg n mk mv xs acc = pure (mergeD acc (xs.map f))
  | [], acc, _, _ => rfl
  | x :: xs, acc, h, hl => by
    obtain ⟨e, kd, h1, h2, h3, h4, h5⟩ := h x (List.mem_cons_self ..)
    rw [List.length_cons] at hl
    have pl : (putD acc (f x).1 (f x).2).length ≤ acc.length + 1 := by
      unfold putD; split
      · rw [List.length_map]; omega
      · rw [List.length_append]; exact Nat.le_refl _
    simp only [dcGo, h1, h2, h3, h4, h5, pure_bind', if_true]
    rw [guard_of (decide_eq_true (by omega)), dc_map xs _ (fun y hy => h y (List.mem_cons_of_mem _ hy)) (by omega)]
    rfl
/-- a loop that ends by itself: an invariant over what it has come by -/
theorem for_fold {σ : Type} {tg : Ev → D → Option Ev} {b : Ev → M Ctl} (J : σ → Ev → Prop) (st : σ → D → σ) : ∀ (xs : List D) (s : σ) (env : Ev), J s env → (∀ x ∈ xs, ∀ s env, J s env → ∃ e e', tg env x = some e ∧ b e = pure (.nx e') ∧ J (st s x) e') → ∃ e', forGo tg b xs env = pure (.nx e') ∧ J (xs.foldl st s) e'
  | [], s, env, h, _ => ⟨env, rfl, h⟩
  | x :: xs, s, env, h, hb => by
    obtain ⟨e, e', h1, h2, h3⟩ := hb x (List.mem_cons_self ..) s env h
    obtain ⟨e2, h4, h5⟩ := for_fold J st xs (st s x) e' h3 fun y hy => hb y (List.mem_cons_of_mem _ hy)
    refine ⟨e2, ?_, h5⟩
    simp only [forGo, h1, h2, pure_bind']
    exact h4
end Mir
end
section
set_option Elab.async false
set_option linter.all false
set_option maxRecDepth 100000
set_option maxHeartbeats 400000
namespace Cm
open PySem PySem.Spec PyProof.Rows L2 Mir
def b_is_name : Ev → M Ctl := (cRet (eAnd (eUn (dIsi isStr) (eVar 0)) (eAnd (eChain dLe dLe (eC (.int 1)) (eUn dLen (eVar 0)) (eC (.int 8))) (eUn dAll (eLc (iOn dIt (eVar 0)) [1] (gN 1) nYes (eBin (dIn false) (eVar 1) (eC (.str "abcdefghijklmnopqrstuvwxyz"))))))))
def m_is_name : List D → M D := defM 2 b_is_name
def b_is_whole : Ev → M Ctl := (cRet (eAnd (eUn (dIsi isInt) (eVar 0)) (eNot (eUn (dIsi isBl) (eVar 0)))))
def m_is_whole : List D → M D := defM 1 b_is_whole
def b_is_from : Ev → M Ctl := (cRet (eAnd (eCall 1 m_is_whole (aCons (eVar 0) aNil)) (eChain dLe dLe (eVar 1) (eVar 0) (eVar 2))))
def m_is_from : List D → M D := defM 3 b_is_from
def b_are_names : Ev → M Ctl := (cSeq (cIf (tOr' (tNot' (tB' (eUn (dIsi fun x => isLst x || isTup x) (eVar 0)))) (tNot' (tB' (eChain dLe dLe (eC (.int 1)) (eUn dLen (eVar 0)) (eVar 1))))) (cRet (eC (.bl false))) cNx) (cRet (eAnd (eUn dAll (eLc (iOn dIt (eVar 0)) [2] (gN 2) nYes (eCall 1 m_is_name (aCons (eVar 2) aNil)))) (eBin dEq (eUn dLen (eDc (iOn dIt (eVar 0)) [2] (gN 2) nYes (eVar 2) (eC (.bl true)))) (eUn dLen (eVar 0))))))
def m_are_names : List D → M D := defM 3 b_are_names
def b_is_beam : Ev → M Ctl := (cSeq (cIf (tOr' (tNot' (tB' (eUn (dIsi isTup) (eVar 0)))) (tOr' (tB' (eBin dNe (eUn dLen (eVar 0)) (eC (.int 2)))) (tNot' (tB' (eCall 1 m_is_name (aCons (eBin dAt (eVar 0) (eC (.int 0))) aNil)))))) (cRet (eC (.bl false))) cNx) (cRet (eAnd (eCall 3 m_is_from (aCons (eBin dAt (eVar 0) (eC (.int 1))) (aCons (eNeg (eC (.int 5))) (aCons (eC (.int 5)) aNil)))) (eBin dNe (eBin dAt (eVar 0) (eC (.int 1))) (eC (.int 0))))))
def m_is_beam : List D → M D := defM 1 b_is_beam
def b_are_beams : Ev → M Ctl := (cSeq (cIf (tOr' (tNot' (tB' (eUn (dIsi fun x => isLst x || isTup x) (eVar 0)))) (tNot' (tB' (eUn dAll (eLc (iOn dIt (eVar 0)) [1] (gN 1) nYes (eCall 1 m_is_beam (aCons (eVar 1) aNil))))))) (cRet (eC (.bl false))) cNx) (cRet (eCall 2 m_are_names (aCons (eLc (iOn dIt (eVar 0)) [1] (gN 1) nYes (eBin dAt (eVar 1) (eC (.int 0)))) (aCons (eC (.int 3)) aNil)))))
def m_are_beams : List D → M D := defM 2 b_are_beams
def b_tuples_of : Ev → M Ctl := (cSeq (cSet 2 (eC (.int 1))) (cSeq (cFor (iRange (aCons (eVar 1) aNil)) (gN 3) (cSet 2 (eBin dMul (eVar 2) (eBin dAdd (eBin dMul (eC (.int 2)) (eVar 0)) (eC (.int 1)))))) (cRet (eVar 2))))
def m_tuples_of : List D → M D := defM 4 b_tuples_of
def b_Yard_init : Ev → List (Str × D) → M (List (Str × D)) := (nIf (tOr' (tNot' (tB' (eCall 2 m_are_names (aCons (eVar 1) (aCons (eC (.int 8)) aNil))))) (tNot' (tB' (eCall 1 m_are_beams (aCons (eVar 2) aNil))))) (nIf (tOr' (tNot' (tB' (eCall 3 m_is_from (aCons (eVar 3) (aCons (eC (.int 1)) (aCons (eC (.int 100)) aNil)))))) (tNot' (tB' (eCall 3 m_is_from (aCons (eVar 4) (aCons (eC (.int 0)) (aCons (eC (.int 9)) aNil))))))) (nIf (tB' (eBin dGt (eCall 2 m_tuples_of (aCons (eVar 4) (aCons (eUn dLen (eVar 2)) aNil))) (eC (.int 400)))) (nFld "thing_names" (eUn dTupleP (eVar 1)) (nFld "beam_steps" (eUn dTupleP (eVar 2)) (nFld "heaviest" (eVar 3) (nFld "farthest" (eVar 4) nNil)))))))
def m_Yard_init : List D → M (List (Str × D)) := initM 5 b_Yard_init
def b_Yard_things : Ev → M Ctl := (cRet (eUn dList (eFld "Yard" "thing_names" (eVar 0))))
def m_Yard_things : List D → M D := defM 1 b_Yard_things
def b_Yard_beams : Ev → M Ctl := (cRet (eUn dList (eFld "Yard" "beam_steps" (eVar 0))))
def m_Yard_beams : List D → M D := defM 1 b_Yard_beams
def b_Yard_most : Ev → M Ctl := (cRet (eFld "Yard" "heaviest" (eVar 0)))
def m_Yard_most : List D → M D := defM 1 b_Yard_most
def b_Yard_lean : Ev → M Ctl := (cRet (eFld "Yard" "farthest" (eVar 0)))
def m_Yard_lean : List D → M D := defM 1 b_Yard_lean
def b_need_beam : Ev → M Ctl := (cIf (tOr' (tNot' (tB' (eUn (dIsi isStr) (eVar 1)))) (tB' (eBin dNin (eVar 1) (eLc (iOn dIt (eMeth "Yard" "beams" 1 m_Yard_beams (eVar 0) aNil)) [2, 3] (gT (gsCons (gN 2) (gsCons (gN 3) gsNil))) nYes (eVar 2))))) cNever cNx)
def m_need_beam : List D → M D := defM 4 b_need_beam
def b_Yard_step : Ev → M Ctl := (cSeq (cDrop (eCall 2 m_need_beam (aCons (eVar 0) (aCons (eVar 1) aNil)))) (cRet (eBin dAt (eUn dDictT (eFld "Yard" "beam_steps" (eVar 0))) (eVar 1))))
def m_Yard_step : List D → M D := defM 2 b_Yard_step
def b_need_pan : Ev → M Ctl := (cIf (tAnd' (tB' (eBin (dIsN true) (eVar 1) (eC .non))) (tOr' (tNot' (tB' (eUn (dIsi isStr) (eVar 1)))) (tB' (eBin dNin (eVar 1) (eMeth "Yard" "things" 1 m_Yard_things (eVar 0) aNil))))) cNever cNx)
def m_need_pan : List D → M D := defM 2 b_need_pan
def b_are_parts : Ev → M Ctl := (cSeq (cSeq (cDrop (eCall 2 m_need_beam (aCons (eVar 0) (aCons (eVar 1) aNil)))) (cSeq (cDrop (eCall 2 m_need_pan (aCons (eVar 0) (aCons (eVar 2) aNil)))) (cDrop (eCall 2 m_need_pan (aCons (eVar 0) (aCons (eVar 3) aNil)))))) (cRet (eOr (eBin (dIsN false) (eVar 2) (eC .non)) (eBin dNe (eVar 2) (eVar 3)))))
def m_are_parts : List D → M D := defM 4 b_are_parts
def b_is_row : Ev → M Ctl := (cSeq (cIf (tOr' (tNot' (tB' (eUn (dIsi isTup) (eVar 1)))) (tOr' (tB' (eBin dNe (eUn dLen (eVar 1)) (eC (.int 4)))) (tNot' (tB' (eCall 4 m_are_parts (aCons (eVar 0) (aCons (eBin dAt (eVar 1) (eC (.int 0))) (aCons (eBin dAt (eVar 1) (eC (.int 1))) (aCons (eBin dAt (eVar 1) (eC (.int 2))) aNil))))))))) (cRet (eC (.bl false))) cNx) (cRet (eAnd (eUn (dIsi isStr) (eBin dAt (eVar 1) (eC (.int 3)))) (eBin (dIn false) (eBin dAt (eVar 1) (eC (.int 3))) (eC (.tup [(.str "left"), (.str "even"), (.str "right")]))))))
def m_is_row : List D → M D := defM 2 b_is_row
def b_need_log : Ev → M Ctl := (cSeq (cIf (tNot' (tB' (eUn (dIsi fun x => isLst x || isTup x) (eVar 1)))) cNever cNx) (cFor (iOns dEnum (aCons (eVar 1) aNil)) (gT (gsCons (gN 2) (gsCons (gN 3) gsNil))) (cIf (tNot' (tB' (eCall 2 m_is_row (aCons (eVar 0) (aCons (eVar 3) aNil))))) cNever cNx)))
def m_need_log : List D → M D := defM 4 b_need_log
def b_word_of : Ev → M Ctl := (cSeq (cIf (tB' (eBin dEq (eVar 0) (eC (.int 0)))) (cRet (eC (.str "even"))) cNx) (cRet (eIf (tB' (eBin dGt (eVar 0) (eC (.int 0)))) (eC (.str "left")) (eC (.str "right")))))
def m_word_of : List D → M D := defM 1 b_word_of
def b_tired : Ev → M Ctl := (cRet (eBin dAt (eDisp (pCons (eC (.str "left")) (eNeg (eVar 1)) (pCons (eC (.str "even")) (eC (.int 0)) (pCons (eC (.str "right")) (eVar 1) pNil)))) (eVar 0)))
def m_tired : List D → M D := defM 2 b_tired
def b_shifts : Ev → M Ctl := (cSeq (cDrop (eCall 2 m_need_log (aCons (eVar 0) (aCons (eVar 1) aNil)))) (cSeq (cSet 2 (eUn dDict (eMeth "Yard" "beams" 1 m_Yard_beams (eVar 0) aNil))) (cRet (eDc (iOn dIt (eVar 2)) [4] (gN 4) nYes (eVar 4) (eUn dSum (eLc (iOn dIt (eVar 1)) [3] (gN 3) (tB' (eBin dEq (eBin dAt (eVar 3) (eC (.int 0))) (eVar 4))) (eCall 2 m_tired (aCons (eBin dAt (eVar 3) (eC (.int 3))) (aCons (eBin dAt (eVar 2) (eVar 4)) aNil)))))))))
def m_shifts : List D → M D := defM 5 b_shifts
def b_is_dict_of : Ev → M Ctl := (cSeq (cIf (tOr' (tNot' (tB' (eUn (dIsi isDic) (eVar 0)))) (tOr' (tB' (eBin dNe (eUn dLen (eVar 0)) (eUn dLen (eVar 1)))) (tNot' (tB' (eUn dAll (eLc (iOn dIt (eVar 1)) [4] (gN 4) nYes (eBin (dIn false) (eVar 4) (eVar 0)))))))) (cRet (eC (.bl false))) cNx) (cRet (eUn dAll (eLc (iOn dVals (eVar 0)) [5] (gN 5) nYes (eCall 3 m_is_from (aCons (eVar 5) (aCons (eVar 2) (aCons (eVar 3) aNil))))))))
def m_is_dict_of : List D → M D := defM 6 b_is_dict_of
def b_is_pair : Ev → M Ctl := (cSeq (cIf (tOr' (tNot' (tB' (eUn (dIsi isTup) (eVar 1)))) (tOr' (tB' (eBin dNe (eUn dLen (eVar 1)) (eC (.int 2)))) (tNot' (tB' (eCall 4 m_is_dict_of (aCons (eBin dAt (eVar 1) (eC (.int 0))) (aCons (eMeth "Yard" "things" 1 m_Yard_things (eVar 0) aNil) (aCons (eC (.int 1)) (aCons (eMeth "Yard" "most" 1 m_Yard_most (eVar 0) aNil) aNil))))))))) (cRet (eC (.bl false))) cNx) (cRet (eCall 4 m_is_dict_of (aCons (eBin dAt (eVar 1) (eC (.int 1))) (aCons (eLc (iOn dIt (eMeth "Yard" "beams" 1 m_Yard_beams (eVar 0) aNil)) [2, 3] (gT (gsCons (gN 2) (gsCons (gN 3) gsNil))) nYes (eVar 2)) (aCons (eBin dSub (eC (.int 0)) (eMeth "Yard" "lean" 1 m_Yard_lean (eVar 0) aNil)) (aCons (eMeth "Yard" "lean" 1 m_Yard_lean (eVar 0) aNil) aNil)))))))
def m_is_pair : List D → M D := defM 4 b_is_pair
def b_need_world : Ev → M Ctl := (cIf (tNot' (tB' (eCall 2 m_is_pair (aCons (eVar 0) (aCons (eVar 1) aNil))))) cNever cNx)
def m_need_world : List D → M D := defM 2 b_need_world
def b_weight : Ev → M Ctl := (cRet (eIf (tB' (eBin (dIsN false) (eVar 1) (eC .non))) (eC (.int 0)) (eBin dAt (eBin dAt (eVar 0) (eC (.int 0))) (eVar 1))))
def m_weight : List D → M D := defM 2 b_weight
def b_told_words : Ev → M Ctl := (cSeq (cPar3 3 4 5 (eUn dDict (eMeth "Yard" "beams" 1 m_Yard_beams (eVar 0) aNil)) (eUn dDict (eBin dAt (eVar 1) (eC (.int 1)))) (eLst aNil)) (cSeq (cFor (iOn dIt (eVar 2)) (gT (gsCons (gN 6) (gsCons (gN 7) (gsCons (gN 8) gsNil)))) (cSeq (cSet 9 (eCall 1 m_word_of (aCons (eBin dAdd (eBin dSub (eCall 2 m_weight (aCons (eVar 1) (aCons (eVar 7) aNil))) (eCall 2 m_weight (aCons (eVar 1) (aCons (eVar 8) aNil)))) (eBin dAt (eVar 4) (eVar 6))) aNil))) (cSeq (cAugD 4 (eVar 6) (eCall 2 m_tired (aCons (eVar 9) (aCons (eBin dAt (eVar 3) (eVar 6)) aNil)))) (cApp 5 (eTup (aCons (eVar 6) (aCons (eVar 7) (aCons (eVar 8) (aCons (eVar 9) aNil))))))))) (cRet (eVar 5))))
def m_told_words : List D → M D := defM 10 b_told_words
def b_is_world : Ev → M Ctl := (cSeq (cDrop (eCall 2 m_need_log (aCons (eVar 0) (aCons (eVar 1) aNil)))) (cRet (eAnd (eCall 2 m_is_pair (aCons (eVar 0) (aCons (eVar 2) aNil))) (eBin dEq (eCall 3 m_told_words (aCons (eVar 0) (aCons (eVar 2) (aCons (eLc (iOn dIt (eVar 1)) [3] (gN 3) nYes (eSl (eVar 3) oNone (oSome (eC (.int 3))))) aNil)))) (eUn dList (eVar 1))))))
def m_is_world : List D → M D := defM 4 b_is_world
def b_pans : Ev → M Ctl := (cRet (eBin dAdd (eLst (aCons (eC .non) aNil)) (eMeth "Yard" "things" 1 m_Yard_things (eVar 0) aNil)))
def m_pans : List D → M D := defM 1 b_pans
def b_weighings_at : Ev → M Ctl := (cSeq (cSet 2 (eLst aNil)) (cSeq (cFor (iOn dIt (eCall 1 m_pans (aCons (eVar 0) aNil))) (gN 3) (cExt 2 (eLc (iOn dIt (eCall 1 m_pans (aCons (eVar 0) aNil))) [4] (gN 4) (tOr' (tB' (eBin (dIsN false) (eVar 3) (eC .non))) (tB' (eBin dNe (eVar 3) (eVar 4)))) (eTup (aCons (eVar 1) (aCons (eVar 3) (aCons (eVar 4) aNil))))))) (cRet (eVar 2))))
def m_weighings_at : List D → M D := defM 5 b_weighings_at
def b_need_steps : Ev → M Ctl := (cFor (iOn dIt (eMeth "Yard" "beams" 1 m_Yard_beams (eVar 0) aNil)) (gT (gsCons (gN 1) (gsCons (gN 2) gsNil))) (cIf (tB' (eBin dLt (eVar 2) (eC (.int 0)))) cNever cNx))
def m_need_steps : List D → M D := defM 3 b_need_steps
def b_total_at : Ev → M Ctl := (cSeq (cAsg (gT (gsCons (gN 2) (gsCons (gN 3) (gsCons (gN 4) gsNil)))) (eVar 1)) (cRet (eBin dAdd (eBin dSub (eCall 2 m_weight (aCons (eVar 0) (aCons (eVar 3) aNil))) (eCall 2 m_weight (aCons (eVar 0) (aCons (eVar 4) aNil)))) (eBin dAt (eBin dAt (eVar 0) (eC (.int 1))) (eVar 2)))))
def m_total_at : List D → M D := defM 5 b_total_at
def b_parting_at : Ev → M Ctl := (cSeq (cPar2 5 6 (eCall 2 m_weighings_at (aCons (eVar 0) (aCons (eVar 3) aNil))) (eMeth "Yard" "step" 2 m_Yard_step (eVar 0) (aCons (eVar 3) aNil))) (cSeq (cSet 7 (eLc (iOn dIt (eVar 5)) [8] (gN 8) nYes (eTup (aCons (eVar 8) (aCons (eCall 2 m_total_at (aCons (eVar 1) (aCons (eVar 8) aNil))) (aCons (eCall 2 m_total_at (aCons (eVar 2) (aCons (eVar 8) aNil))) aNil)))))) (cSeq (cPar2 9 10 (eDisp (pCons (eVar 4) (eLst aNil) pNil)) (eLst (aCons (eVar 4) aNil))) (cSeq (cWhile (tB' (eBin dNe (eVar 10) (eLst aNil))) (cSeq (cPop0 11 10) (cFor (iOn dIt (eVar 7)) (gT (gsCons (gN 8) (gsCons (gN 12) (gsCons (gN 13) gsNil)))) (cSeq (cSet 14 (eCall 1 m_word_of (aCons (eBin dAdd (eVar 12) (eVar 11)) aNil))) (cSeq (cIf (tB' (eBin dNe (eVar 14) (eCall 1 m_word_of (aCons (eBin dAdd (eVar 13) (eVar 11)) aNil)))) (cRet (eBin dCat (eBin dAt (eVar 9) (eVar 11)) (eLst (aCons (eVar 8) aNil)))) cNx) (cSeq (cSet 15 (eBin dAdd (eVar 11) (eCall 2 m_tired (aCons (eVar 14) (aCons (eVar 6) aNil))))) (cIf (tB' (eBin dNin (eVar 15) (eVar 9))) (cSeq (cSetD 9 (eVar 15) (eBin dAdd (eBin dAt (eVar 9) (eVar 11)) (eLst (aCons (eVar 8) aNil)))) (cApp 10 (eVar 15))) cNx))))))) (cRet (eC .non))))))
def m_parting_at : List D → M D := defM 16 b_parting_at
def b_parting : Ev → M Ctl := (cSeq (cDrop (eCall 1 m_need_steps (aCons (eVar 0) aNil))) (cSeq (cDrop (eCall 2 m_need_world (aCons (eVar 0) (aCons (eVar 1) aNil)))) (cSeq (cDrop (eCall 2 m_need_world (aCons (eVar 0) (aCons (eVar 2) aNil)))) (cSeq (cIf (tOr' (tNot' (tB' (eCall 3 m_is_world (aCons (eVar 0) (aCons (eVar 3) (aCons (eVar 1) aNil)))))) (tNot' (tB' (eCall 3 m_is_world (aCons (eVar 0) (aCons (eVar 3) (aCons (eVar 2) aNil))))))) cNever cNx) (cSeq (cPar2 4 5 (eC .non) (eCall 2 m_shifts (aCons (eVar 0) (aCons (eVar 3) aNil)))) (cSeq (cFor (iOn dIt (eMeth "Yard" "beams" 1 m_Yard_beams (eVar 0) aNil)) (gT (gsCons (gN 6) (gsCons (gN 7) gsNil))) (cSeq (cSet 8 (eCall 5 m_parting_at (aCons (eVar 0) (aCons (eVar 1) (aCons (eVar 2) (aCons (eVar 6) (aCons (eBin dAt (eVar 5) (eVar 6)) aNil))))))) (cIf (tAnd' (tB' (eBin (dIsN true) (eVar 8) (eC .non))) (tOr' (tB' (eBin (dIsN false) (eVar 4) (eC .non))) (tB' (eBin dLt (eUn dLen (eVar 8)) (eUn dLen (eVar 4)))))) (cMove 4 8) cNx))) (cRet (eVar 4))))))))
def m_parting : List D → M D := defM 9 b_parting
def b_alike : Ev → M Ctl := (cRet (eBin (dIsN false) (eCallD 3 (.tup []) m_parting (aCons (eVar 0) (aCons (eVar 1) (aCons (eVar 2) aNil)))) (eC .non)))
def m_alike : List D → M D := defM 3 b_alike
def b__law_next : Ev → M Ctl := (cSeq (cWhile (tAnd' (tB' (eBin dEq (eSt 0 fun d => .int d.dg) (eC (.int 0)))) (tB' (eSt 0 fun d => .bl (!decide (d.gr = []))))) (cStPop 0)) (cSeq (cIf (tB' (eBin dGt (eSt 0 fun d => .int d.dg) (eC (.int 0)))) (cSeq (cSet 2 (eBin dMod (eSt 0 fun d => .int d.dg) (eVar 1))) (cSeq (cStDg 0 (eBin dDiv (eSt 0 fun d => .int d.dg) (eVar 1))) (cRet (eVar 2)))) cNx) (cSeq (cStTn 0) (cSeq (cSet 3 (eSt 0 fun d => .int d.tn)) (cSeq (cSet 4 (eC (.int 0))) (cSeq (cIf (tB' (eSt 0 fun d => .bl (!decide (d.ce = [])))) (cSet 4 (eStCe 0 (eBin dMod (eVar 3) (eSt 0 fun d => .int d.ce.length)))) cNx) (cSeq (cSet 5 (eBin dMod (eBin dPow (eBin dAdd (eBin dMod (eVar 4) (eC (.int 2147483629))) (eBin dMul (eC (.int 40009)) (eVar 3))) (eC (.int 3))) (eC (.int 2147483647)))) (cRet (eBin dMod (eBin dDiv (eBin dMod (eBin dPow (eBin dAdd (eVar 5) (eBin dMul (eC (.int 104729)) (eVar 3))) (eC (.int 5))) (eC (.int 2147483629))) (eC (.int 11))) (eVar 1))))))))))
def m__law_next : List D → M D := defM 6 b__law_next
def b__law_pick : Ev → M Ctl := (cRet (eBin dAt (eVar 1) (eCall 2 m__law_next (aCons (eVar 0) (aCons (eUn dLen (eVar 1)) aNil)))))
def m__law_pick : List D → M D := defM 2 b__law_pick
def b__law_names : Ev → M Ctl := (cSeq (cSet 2 (eC (.str "abcdefghijklmnopqrstuvwxyz"))) (cSeq (cSet 3 (eLc (iRange (aCons (eBin dAdd (eC (.int 1)) (eCall 2 m__law_next (aCons (eVar 0) (aCons (eC (.int 8)) aNil)))) aNil)) [4] (gN 4) nYes (eCall 2 m__law_pick (aCons (eVar 0) (aCons (eVar 2) aNil))))) (cSeq (cSet 5 (eCall 2 m__law_next (aCons (eVar 0) (aCons (eUn dLen (eVar 3)) aNil)))) (cSeq (cPar2 6 7 (eCall 2 m__law_next (aCons (eVar 0) (aCons (eC (.int 26)) aNil))) (eCall 2 m__law_pick (aCons (eVar 0) (aCons (eLst (aCons (eC (.int 1)) (aCons (eC (.int 3)) (aCons (eC (.int 5)) (aCons (eC (.int 7)) (aCons (eC (.int 9)) (aCons (eC (.int 11)) aNil))))))) aNil)))) (cSeq (cSet 8 (eLst aNil)) (cSeq (cFor (iRange (aCons (eVar 1) aNil)) (gN 4) (cSeq (cSetL 3 (eVar 5) (eBin dAt (eVar 2) (eBin dMod (eBin dAdd (eVar 6) (eBin dMul (eVar 7) (eVar 4))) (eC (.int 26))))) (cApp 8 (eBin dJoin (eC (.str "")) (eVar 3))))) (cRet (eVar 8))))))))
def m__law_names : List D → M D := defM 9 b__law_names
def b__law_row : Ev → M Ctl := (cSeq (cSet 5 (eCall 2 m__law_names (aCons (eVar 0) (aCons (eBin dAdd (eC (.int 1)) (eCall 2 m__law_next (aCons (eVar 0) (aCons (eVar 2) aNil)))) aNil)))) (cSeq (cSet 6 (eBin dAdd (eC (.int 1)) (eCall 2 m__law_next (aCons (eVar 0) (aCons (eVar 1) aNil))))) (cSeq (cSet 7 (eLc (iRange (aCons (eVar 6) aNil)) [8] (gN 8) nYes (eCall 2 m__law_pick (aCons (eVar 0) (aCons (eLst (aCons (eC (.int 1)) (aCons (eC (.int 2)) (aCons (eC (.int 3)) (aCons (eNeg (eC (.int 1))) (aCons (eC (.int 5)) (aCons (eNeg (eC (.int 2))) (aCons (eC (.int 4)) (aCons (eNeg (eC (.int 5))) (aCons (eNeg (eC (.int 3))) (aCons (eNeg (eC (.int 4))) aNil))))))))))) aNil))))) (cSeq (cSet 9 (eCall 2 m__law_names (aCons (eVar 0) (aCons (eVar 6) aNil)))) (cSeq (cIf (tAnd' (tB' (eBin dEq (eCall 2 m__law_next (aCons (eVar 0) (aCons (eC (.int 3)) aNil))) (eC (.int 0)))) (tB' (eBin dGe (eUn dLen (eVar 5)) (eVar 6)))) (cSet 9 (eSl (eUn dRev (eVar 5)) oNone (oSome (eVar 6)))) cNx) (cSeq (cSet 10 (aZip (aCons (eVar 9) (aCons (eVar 7) aNil)))) (cRet (eTup (aCons (eVar 5) (aCons (eVar 10) (aCons (eBin dAdd (eC (.int 1)) (eCall 2 m__law_next (aCons (eVar 0) (aCons (eVar 3) aNil)))) (aCons (eCall 2 m__law_next (aCons (eVar 0) (aCons (eBin dAdd (eC (.int 1)) (eBin dMin (eVar 4) (eBin dAt (eLst (aCons (eC (.int 9)) (aCons (eC (.int 4)) (aCons (eC (.int 2)) aNil)))) (eBin dSub (eVar 6) (eC (.int 1)))))) aNil))) aNil))))))))))))
def m__law_row : List D → M D := defM 11 b__law_row
def b__law_world : Ev → M Ctl := (cSeq (cSet 2 (eUn dDict (eLc (iOn dIt (eBin dAt (eVar 1) (eC (.int 0)))) [3] (gN 3) nYes (eTup (aCons (eVar 3) (aCons (eBin dAdd (eC (.int 1)) (eCall 2 m__law_next (aCons (eVar 0) (aCons (eBin dAt (eVar 1) (eC (.int 2))) aNil)))) aNil)))))) (cRet (eTup (aCons (eVar 2) (aCons (eUn dDict (eLc (iOn dIt (eBin dAt (eVar 1) (eC (.int 1)))) [3, 4] (gT (gsCons (gN 3) (gsCons (gN 4) gsNil))) nYes (eTup (aCons (eVar 3) (aCons (eBin dSub (eCall 2 m__law_next (aCons (eVar 0) (aCons (eBin dAdd (eBin dMul (eC (.int 2)) (eBin dAt (eVar 1) (eC (.int 3)))) (eC (.int 1))) aNil))) (eBin dAt (eVar 1) (eC (.int 3)))) aNil))))) aNil)))))
def m__law_world : List D → M D := defM 5 b__law_world
def b__law_sign : Ev → M Ctl := (cRet (eBin dSub (eUn dInt (eBin dGt (eVar 0) (eC (.int 0)))) (eUn dInt (eBin dLt (eVar 0) (eC (.int 0))))))
def m__law_sign : List D → M D := defM 1 b__law_sign
def b__law_told : Ev → M Ctl := (cSeq (cPar2 3 4 (eUn dDict (eBin dAt (eVar 1) (eC (.int 1)))) (eUn dDict (eBin dAt (eVar 0) (eC (.int 1))))) (cSeq (cSet 5 (eLst aNil)) (cSeq (cFor (iOn dIt (eVar 2)) (gT (gsCons (gN 6) (gsCons (gN 7) (gsCons (gN 8) gsNil)))) (cSeq (cSet 9 (eCall 1 m__law_sign (aCons (eBin dAdd (eBin dSub (eTri dGet2 (eBin dAt (eVar 1) (eC (.int 0))) (eVar 7) (eC (.int 0))) (eTri dGet2 (eBin dAt (eVar 1) (eC (.int 0))) (eVar 8) (eC (.int 0)))) (eBin dAt (eVar 3) (eVar 6))) aNil))) (cSeq (cSetD 3 (eVar 6) (eBin dSub (eBin dAt (eVar 3) (eVar 6)) (eBin dMul (eBin dAt (eVar 4) (eVar 6)) (eVar 9)))) (cApp 5 (eTup (aCons (eVar 6) (aCons (eVar 7) (aCons (eVar 8) (aCons (eBin dAt (eLst (aCons (eC (.str "right")) (aCons (eC (.str "even")) (aCons (eC (.str "left")) aNil)))) (eBin dAdd (eC (.int 1)) (eVar 9))) aNil))))))))) (cRet (eVar 5)))))
def m__law_told : List D → M D := defM 10 b__law_told
def b__law_up : Ev → M Ctl := (cRet (eBin dAdd (eBin dAdd (eSl (eVar 0) oNone (oSome (eC (.int 1)))) (eTup (aCons (eLc (iOn dIt (eBin dAt (eVar 0) (eC (.int 1)))) [1, 2] (gT (gsCons (gN 1) (gsCons (gN 2) gsNil))) nYes (eTup (aCons (eVar 1) (aCons (eUn dAbs (eVar 2)) aNil)))) aNil))) (eSl (eVar 0) (oSome (eC (.int 2))) oNone)))
def m__law_up : List D → M D := defM 3 b__law_up
def b__law_marks : Ev → M Ctl := (cSeq (cPar2 2 3 (eLst aNil) (eBin dAdd (eLst (aCons (eC .non) aNil)) (eBin dAt (eVar 0) (eC (.int 0))))) (cSeq (cFor (iOn dIt (eBin dAt (eVar 0) (eC (.int 1)))) (gT (gsCons (gN 4) (gsCons (gN 5) gsNil))) (cFor (iOn dIt (eVar 3)) (gN 6) (cFor (iOn dIt (eVar 3)) (gN 7) (cIf (tOr' (tB' (eBin (dIsN false) (eVar 6) (eC .non))) (tB' (eBin dNe (eVar 6) (eVar 7)))) (cSeq (cSet 8 (eBin dAdd (eBin dSub (eTri dGet2 (eBin dAt (eVar 1) (eC (.int 0))) (eVar 6) (eC (.int 0))) (eTri dGet2 (eBin dAt (eVar 1) (eC (.int 0))) (eVar 7) (eC (.int 0)))) (eBin dAt (eBin dAt (eVar 1) (eC (.int 1))) (eVar 4)))) (cApp 2 (eTup (aCons (eBin dDiv (eVar 8) (eVar 5)) (aCons (eBin dEq (eBin dMod (eVar 8) (eVar 5)) (eC (.int 0))) aNil))))) cNx)))) (cRet (eVar 2))))
def m__law_marks : List D → M D := defM 9 b__law_marks
def b__law_turned : Ev → M Ctl := (cSeq (cIf (tB' (eBin dGt (eCall 2 m__law_next (aCons (eVar 0) (aCons (eC (.int 3)) aNil))) (eC (.int 0)))) (cRet (eVar 1)) cNx) (cRet (eUn dTuple (eLc (iOn dIt (eVar 1)) [2] (gN 2) nYes (eUn dDict (eUn dRev (eUn dItL (eVar 2))))))))
def m__law_turned : List D → M D := defM 3 b__law_turned
def b__law_near : Ev → M Ctl := (cSeq (cSet 3 (eCall 2 m__law_next (aCons (eVar 0) (aCons (eC (.int 5)) aNil)))) (cSeq (cIf (tB' (eBin dEq (eVar 3) (eC (.int 0)))) (cRet (eCall 2 m__law_world (aCons (eVar 0) (aCons (eVar 1) aNil)))) cNx) (cSeq (cPar2 4 5 (eUn dDict (eBin dAt (eVar 2) (eC (.int 0)))) (eUn dDict (eBin dAt (eVar 2) (eC (.int 1))))) (cSeq (cSet 6 (eCall 2 m__law_pick (aCons (eVar 0) (aCons (eLst (aCons (eC (.int 1)) (aCons (eNeg (eC (.int 1))) (aCons (eBin dAt (eBin dAt (eBin dAt (eVar 1) (eC (.int 1))) (eC (.int 0))) (eC (.int 1))) (aCons (eNeg (eBin dAt (eBin dAt (eBin dAt (eVar 1) (eC (.int 1))) (eC (.int 0))) (eC (.int 1)))) (aCons (eC (.int 2)) aNil)))))) aNil)))) (cSeq (cSet 7 (eCall 2 m__law_pick (aCons (eVar 0) (aCons (eBin dAt (eVar 1) (eC (.int 0))) aNil)))) (cSeq (cFor (iOn dIt (eBin dAt (eVar 1) (eC (.int 0)))) (gN 8) (cIf (tAnd' (tB' (eBin dLt (eVar 3) (eC (.int 4)))) (tOr' (tB' (eBin dLt (eVar 3) (eC (.int 3)))) (tB' (eBin dEq (eVar 8) (eVar 7))))) (cSetD 4 (eVar 8) (eBin dMin (eBin dAt (eVar 1) (eC (.int 2))) (eBin dMax (eC (.int 1)) (eBin dAdd (eBin dAt (eVar 4) (eVar 8)) (eVar 6))))) cNx)) (cSeq (cFor (iOn dIt (eBin dAt (eVar 1) (eC (.int 1)))) (gT (gsCons (gN 8) (gsCons (gN 9) gsNil))) (cIf (tB' (eBin (dIn false) (eVar 3) (eTup (aCons (eC (.int 2)) (aCons (eC (.int 4)) aNil))))) (cSetD 5 (eVar 8) (eBin dMin (eBin dAt (eVar 1) (eC (.int 3))) (eBin dMax (eNeg (eBin dAt (eVar 1) (eC (.int 3)))) (eBin dSub (eBin dAt (eVar 5) (eVar 8)) (eVar 6))))) cNx)) (cRet (eTup (aCons (eVar 4) (aCons (eVar 5) aNil)))))))))))
def m__law_near : List D → M D := defM 10 b__law_near
def b__law_two_right : Ev → M Ctl := (cSeq (cSet 4 (eBin dEq (eCall 2 m__law_marks (aCons (eVar 0) (aCons (eVar 2) aNil))) (eCall 2 m__law_marks (aCons (eVar 0) (aCons (eVar 3) aNil))))) (cSeq (cSet 5 (eLst (aCons (eCall 3 m_alike (aCons (eVar 1) (aCons (eVar 2) (aCons (eVar 3) aNil)))) (aCons (eCall 3 m_alike (aCons (eVar 1) (aCons (eVar 3) (aCons (eVar 2) aNil)))) (aCons (eCallK 3 [2, 1, 0] m_alike (aCons (eVar 3) (aCons (eVar 2) (aCons (eVar 1) aNil)))) aNil))))) (cSeq (cIf (tB' (eBin dNe (eUn dRepr (eVar 5)) (eUn dRepr (eBin dRep (eLst (aCons (eVar 4) aNil)) (eC (.int 3)))))) (cRet (eC (.bl false))) cNx) (cSeq (cSet 6 (eCallD 3 (.tup []) m_parting (aCons (eVar 1) (aCons (eVar 2) (aCons (eVar 3) aNil))))) (cSeq (cIf (tOr' (tB' (eBin (dIsN false) (eVar 6) (eC .non))) (tB' (eVar 4))) (cRet (eAnd (eVar 4) (eBin (dIsN false) (eVar 6) (eC .non)))) cNx) (cSeq (cPar2 7 8 (eCallL 3 m__law_told (aCons (eVar 0) (aCons (eVar 2) (aLend 6 aNil)))) (eCallL 3 m__law_told (aCons (eVar 0) (aCons (eVar 3) (aLend 6 aNil))))) (cSeq (cSet 9 (eUn dList (eVar 6))) (cSeq (cClrL 6) (cSeq (cIf (tB' (eBin dNe (eCallD 3 (.tup []) m_parting (aCons (eVar 1) (aCons (eVar 2) (aCons (eVar 3) aNil)))) (eVar 9))) (cRet (eC (.bl false))) cNx) (cRet (eAnd (eBin dEq (eSl (eVar 7) oNone (oSome (eNeg (eC (.int 1))))) (eSl (eVar 8) oNone (oSome (eNeg (eC (.int 1)))))) (eBin dNe (eBin dAt (eVar 7) (eNeg (eC (.int 1)))) (eBin dAt (eVar 8) (eNeg (eC (.int 1))))))))))))))))
def m__law_two_right : List D → M D := defM 10 b__law_two_right
def b_law : Ev → M Ctl := (cSeq (cFor (iRange (aCons (eBin dMax (eC (.int 1)) (eBin dMin (eC (.int 5)) (eUn dLen (eVar 0)))) aNil)) (gN 2) (cSeq (cSet 3 (eCall 1 m__law_up (aCons (eCall 5 m__law_row (aCons (eVar 1) (aCons (eC (.int 3)) (aCons (eC (.int 8)) (aCons (eC (.int 100)) (aCons (eC (.int 9)) aNil)))))) aNil))) (cSeq (cPar2 4 5 (eMk "Yard" 2 2 m_Yard_init (aCons (eBin dAt (eVar 3) (eC (.int 0))) (aCons (eBin dAt (eVar 3) (eC (.int 1))) aNil)) (aCons (eBin dAt (eVar 3) (eC (.int 2))) (aCons (eBin dAt (eVar 3) (eC (.int 3))) aNil))) (eCall 2 m__law_world (aCons (eVar 1) (aCons (eVar 3) aNil)))) (cSeq (cSet 6 (eCall 2 m__law_turned (aCons (eVar 1) (aCons (eCall 3 m__law_near (aCons (eVar 1) (aCons (eVar 3) (aCons (eVar 5) aNil)))) aNil)))) (cSeq (cSet 7 (eCall 3 m__law_near (aCons (eVar 1) (aCons (eVar 3) (aCons (eVar 6) aNil))))) (cSeq (cSet 8 (eUn dRepr (eLst (aCons (eVar 5) (aCons (eVar 6) (aCons (eVar 7) aNil)))))) (cSeq (cFor (iOn dIt (eLst (aCons (eTup (aCons (eVar 5) (aCons (eVar 6) aNil))) (aCons (eTup (aCons (eVar 6) (aCons (eVar 7) aNil))) (aCons (eTup (aCons (eVar 5) (aCons (eVar 7) aNil))) (aCons (eTup (aCons (eVar 5) (aCons (eVar 5) aNil))) aNil)))))) (gT (gsCons (gN 9) (gsCons (gN 10) gsNil))) (cIf (tNot' (tB' (eCall 4 m__law_two_right (aCons (eVar 3) (aCons (eVar 4) (aCons (eVar 9) (aCons (eVar 10) aNil))))))) (cRet (eC (.bl false))) cNx)) (cSeq (cSet 11 (eLst (aCons (eCall 3 m_alike (aCons (eVar 4) (aCons (eVar 5) (aCons (eVar 6) aNil)))) (aCons (eCall 3 m_alike (aCons (eVar 4) (aCons (eVar 6) (aCons (eVar 7) aNil)))) (aCons (eCall 3 m_alike (aCons (eVar 4) (aCons (eVar 5) (aCons (eVar 7) aNil)))) aNil))))) (cIf (tOr' (tB' (eBin dEq (eBin dCount (eVar 11) (eC (.bl true))) (eC (.int 2)))) (tB' (eBin dNe (eUn dRepr (eLst (aCons (eVar 5) (aCons (eVar 6) (aCons (eVar 7) aNil))))) (eVar 8)))) (cRet (eC (.bl false))) cNx))))))))) (cRet (eC (.bl true))))
def b_is_weighing : Ev → M Ctl := (cRet (eAnd (eUn (dIsi isTup) (eVar 1)) (eAnd (eBin dEq (eUn dLen (eVar 1)) (eC (.int 3))) (eCall 4 m_are_parts (aCons (eVar 0) (aCons (eBin dAt (eVar 1) (eC (.int 0))) (aCons (eBin dAt (eVar 1) (eC (.int 1))) (aCons (eBin dAt (eVar 1) (eC (.int 2))) aNil))))))))
def m_is_weighing : List D → M D := defM 2 b_is_weighing
def b_need_weighings : Ev → M Ctl := (cSeq (cIf (tNot' (tB' (eUn (dIsi fun x => isLst x || isTup x) (eVar 1)))) cNever cNx) (cFor (iOns dEnum (aCons (eVar 1) aNil)) (gT (gsCons (gN 2) (gsCons (gN 3) gsNil))) (cIf (tNot' (tB' (eCall 2 m_is_weighing (aCons (eVar 0) (aCons (eVar 3) aNil))))) cNever cNx)))
def m_need_weighings : List D → M D := defM 4 b_need_weighings
def b_told_by : Ev → M Ctl := (cSeq (cDrop (eCall 2 m_need_world (aCons (eVar 0) (aCons (eVar 1) aNil)))) (cSeq (cDrop (eCall 2 m_need_weighings (aCons (eVar 0) (aCons (eVar 2) aNil)))) (cRet (eCall 3 m_told_words (aCons (eVar 0) (aCons (eVar 1) (aCons (eVar 2) aNil)))))))
def m_told_by : List D → M D := defM 3 b_told_by
end Cm
end
section
set_option Elab.async false
set_option linter.all false
set_option maxRecDepth 100000
set_option maxHeartbeats 400000
namespace Cm
open PySem PySem.Spec PyProof.Rows L2 Mir
theorem guard_bind {α β : Type} {b : Bool} {m : M α} {f : α → M β} : (guardB b m >>= f) = guardB b (m >>= f) := by
  unfold guardB
  split <;> rfl
theorem dEq_int (i j : Int) : dEq (.int i) (.int j) = pure (.bl (decide (i = j))) := by
  have h : ∀ k : Int, SeqAt.shaped (.int k) = true := fun k => by simp [SeqAt.shaped, PyData.canLay0, PyData.depth]
  have e : (PyData.int i).eqv (.int j) = decide (i = j) := by
    simp only [PyData.eqv]
    exact Bool.eq_iff_iff.mpr (by simp)
  simp [dEq, dEqB, dEqP, toPy, guardB, h, e]
theorem dGt_int (i j : Int) : dGt (.int i) (.int j) = pure (.bl (decide (j < i))) := by rfl
theorem word_of_eq (t : Int) : m_word_of [.int t] = pure (.str (if t = 0 then "even" else if 0 < t then "left" else "right")) := by
  simp only [m_word_of, b_word_of, defM, cSeq, cIf, cRet, cNx, tB', eBin, eVar, eC, eIf, pure_bind', List.map, List.length, List.cons_append, List.getElem?_cons_zero, dEq_int, dGt_int]
  by_cases h : t = 0
  · simp [h, pure_bind']
  · by_cases h2 : 0 < t
    · simp [h, h2, pure_bind', dGt_int]
    · simp [h, h2, pure_bind', dGt_int]
end Cm
end
section
set_option Elab.async false
set_option linter.all false
set_option maxRecDepth 100000
set_option maxHeartbeats 400000
namespace Cm
open PySem PySem.Spec PyProof.Rows L2 Mir
/-! ### drawing -/
structure DOk (d : Drw) : Prop where
  dg : 0 ≤ d.dg
  gr : ∀ g ∈ d.gr, 1 ≤ g
  ce : ∀ c ∈ d.ce, 0 ≤ c ∧ c < 10 ^ 18
  tn : 0 ≤ d.tn
structure Dr {α : Type} (k : Nat) (m : M α) (P : α → Prop) : Prop where
  run : ∀ d, DOk d → d.tn + k ≤ 2 ^ 40 → Wp (m d) fun a d' => DOk d' ∧ d'.tn ≤ d.tn + k ∧ P a
theorem Dr.pure {α : Type} {a : α} {k : Nat} {P : α → Prop} (h : P a) : Dr k (Pure.pure a : M α) P := ⟨fun d hd ht => ⟨hd, by omega, h⟩⟩
theorem Dr.bind {α β : Type} {m : M α} {f : α → M β} {k1 k2 k : Nat} {P : α → Prop} {Q : β → Prop} (h1 : Dr k1 m P) (h2 : ∀ a, P a → Dr k2 (f a) Q) (hk : k1 + k2 ≤ k) : Dr k (m >>= f) Q := ⟨fun d hd ht => by
  rw [Wp_bind]
  refine (h1.run d hd (by omega)).imp fun a d1 ⟨o1, t1, p⟩ => ?_
  exact ((h2 a p).run d1 o1 (by omega)).imp fun b d2 ⟨o2, t2, q⟩ => ⟨o2, by omega, q⟩⟩
theorem Dr.imp {α : Type} {m : M α} {k k' : Nat} {P Q : α → Prop} (h : Dr k m P) (hk : k ≤ k') (i : ∀ a, P a → Q a) : Dr k' m Q := ⟨fun d hd ht =>
  (h.run d hd (by omega)).imp fun a d1 ⟨o, t, p⟩ => ⟨o, by omega, i a p⟩⟩
theorem Dr.guard {α : Type} {m : M α} {b : Bool} {k : Nat} {P : α → Prop} (hb : b = true) (h : Dr k m P) : Dr k (guardB b m) P := by
  rw [guard_of hb]; exact h
theorem DOk.begun (ns : List Int) : DOk (begunD ns) where
  dg := Int.le_refl 0
  gr := fun g hg => by
    obtain ⟨c, hc, e⟩ := List.mem_map.mp hg
    have h := of_decide_eq_true (List.mem_filter.mp hc).2
    subst e
    have h10 : (0 : Int) < 10 ^ 18 := by decide
    exact (Int.le_ediv_iff_mul_le h10).mpr (by omega)
  ce := fun c hc => by
    obtain ⟨x, _, e⟩ := List.mem_map.mp hc
    subst e
    have h10 : (0 : Int) < 10 ^ 18 := by decide
    exact ⟨Int.emod_nonneg _ (by omega), Int.emod_lt_of_pos _ h10⟩
  tn := Int.le_refl 0
end Cm
end
section
set_option Elab.async false
set_option linter.all false
set_option maxRecDepth 100000
set_option maxHeartbeats 400000
namespace Cm
open PySem PySem.Spec PyProof.Rows L2 Mir
theorem dMod_int {i j : Int} (h : 0 < j) : dMod (.int i) (.int j) = pure (.int (i % j)) := by
  show guardB (decide (0 < j)) (pure (D.int (i % j))) = _
  rw [decide_eq_true h]; rfl
theorem dDiv_int {i j : Int} (h : 0 < j) (h2 : j < 1073741824) : dDiv (.int i) (.int j) = pure (.int (i / j)) := by
  show guardB _ (pure (D.int (i.fdiv j))) = _
  rw [guard_of (by simp; omega), Int.fdiv_eq_ediv_of_nonneg _ (by omega)]
theorem dMul_int {i j : Int} (h : -(2 ^ 64) < i ∧ i < 2 ^ 64) : dMul (.int i) (.int j) = pure (.int (i * j)) := by
  show guardB (mulOk i j) (pure (D.int (i * j))) = _
  rw [guard_of (by unfold mulOk; simp; omega)]
theorem dPow_int {i j : Int} (h : 0 ≤ j ∧ j ≤ 1000000 ∧ i.natAbs < 2 ^ 64) : dPow (.int i) (.int j) = pure (.int (i ^ j.toNat)) := by
  show guardB _ (pure (D.int (i ^ j.toNat))) = _
  rw [guard_of (by simp; omega)]
theorem dAdd_int (i j : Int) : dAdd (.int i) (.int j) = pure (.int (i + j)) := rfl
/-- the digits that wait come up -/
def fill1 (d : Drw) : Drw := if d.dg = 0 then (match d.gr with
  | [] => d
  | g :: r => { d with dg := g, gr := r }) else d
abbrev whN : Ev → M Bool := tAnd' (tB' (eBin dEq (eSt 0 fun d => .int d.dg) (eC (.int 0)))) (tB' (eSt 0 fun d => .bl (!decide (d.gr = []))))
theorem whN_run (env : Ev) (h : isSt env 0 = true) (d : Drw) : whN env d = .ok (decide (d.dg = 0) && !decide (d.gr = [])) d := by
  simp only [tAnd', tB', eBin, eSt, eC, h, guard_true, bind_run, rdM, dEq_int, pure_run]
  by_cases z : d.dg = 0
  · simp [z, dEq_int, pure_run, bind_run, rdM]
  · simp [z, dEq_int, pure_run, bind_run, rdM]
theorem wh_run (env : Ev) (h : isSt env 0 = true) (d : Drw) (hd : DOk d) (k : Nat) : whGo whN (cStPop 0) (k + 2) env d = .ok (.nx env) (fill1 d) := by
  unfold whGo
  rw [bind_run, whN_run env h]
  by_cases z : d.dg = 0
  · cases hg : d.gr with
    | nil => simp [z, hg, fill1, pure_run]
    | cons g r =>
      have e1 : cStPop 0 env d = .ok (.nx env) { d with dg := g, gr := r } := by
        unfold cStPop
        rw [guard_of h, bind_run]
        show (match d.gr with
          | g :: r => wrM (fun d => { d with dg := g, gr := r }) >>= fun _ => pure (Ctl.nx env)
          | [] => bad : M Ctl) d = _
        rw [hg]
        rfl
      have g1 := hd.gr g (by rw [hg]; exact List.mem_cons_self ..)
      have g0 : g ≠ 0 := by omega
      have e2 : whGo whN (cStPop 0) (k + 1) env { d with dg := g, gr := r } = .ok (.nx env) { d with dg := g, gr := r } := by
        unfold whGo
        rw [bind_run, whN_run env h]
        simp [g0, pure_run]
      simp only [z, decide_true, List.cons_ne_nil, decide_false, Bool.not_false, Bool.and_self, if_true]
      rw [bind_run, e1]
      simp only [fill1, z, hg, if_true]
      exact e2
  · simp [z, fill1, pure_run]
end Cm
end
section
set_option Elab.async false
set_option linter.all false
set_option maxRecDepth 100000
set_option maxHeartbeats 400000
namespace Cm
open PySem PySem.Spec PyProof.Rows L2 Mir
theorem seq_nx {a b : Ev → M Ctl} {env e : Ev} {d d1 : Drw} (h : a env d = .ok (.nx e) d1) : cSeq a b env d = b e d1 := by
  unfold cSeq
  rw [bind_run, h]
theorem seq_ret {a b : Ev → M Ctl} {env : Ev} {x : D} {d d1 : Drw} (h : a env d = .ok (.ret x) d1) : cSeq a b env d = .ok (.ret x) d1 := by
  unfold cSeq
  rw [bind_run, h]
  rfl
theorem set_nx {i : Nat} {m : Ev → M D} {env : Ev} {x : D} {d d1 : Drw} (h : m env d = .ok x d1) : cSet i m env d = .ok (.nx (env.set i (some x))) d1 := by
  unfold cSet
  rw [bind_run, h]
  rfl
theorem ret_run {m : Ev → M D} {env : Ev} {x : D} {d d1 : Drw} (h : m env d = .ok x d1) : cRet m env d = .ok (.ret x) d1 := by
  unfold cRet
  rw [bind_run, h]
  rfl
theorem if_run {n : Ev → M Bool} {a b : Ev → M Ctl} {env : Ev} {t : Bool} {d d1 : Drw} (h : n env d = .ok t d1) : cIf n a b env d = if t = true then a env d1 else b env d1 := by
  unfold cIf
  rw [bind_run, h]
  cases t <;> rfl
theorem bin_run {g : D → D → M D} {ma mb : Ev → M D} {env : Ev} {x y : D} {d d1 d2 : Drw} (h1 : ma env d = .ok x d1) (h2 : mb env d1 = .ok y d2) : eBin g ma mb env d = g x y d2 := by
  unfold eBin
  rw [bind_run, h1]
  show (mb env >>= fun y => g x y) d1 = _
  rw [bind_run, h2]
theorem tB_run {m : Ev → M D} {env : Ev} {b : Bool} {d d1 : Drw} (h : m env d = .ok (.bl b) d1) : tB' m env d = .ok b d1 := by
  unfold tB'
  rw [bind_run, h]
  rfl
theorem var_run {i : Nat} {env : Ev} {x : D} {d : Drw} (h : env[i]? = some (some x)) : eVar i env d = .ok x d := by
  unfold eVar
  rw [h]
  rfl
theorem st_run {i : Nat} {f : Drw → D} {env : Ev} {d : Drw} (h : isSt env i = true) : eSt i f env d = .ok (f d) d := by
  unfold eSt
  rw [guard_of h]
  rfl
theorem fill1_ok {d : Drw} (hd : DOk d) : DOk (fill1 d) ∧ (fill1 d).tn = d.tn := by
  unfold fill1
  split
  · cases hg : d.gr with
    | nil => exact ⟨hd, rfl⟩
    | cons g r => exact ⟨⟨by have := hd.gr g (by rw [hg]; exact List.mem_cons_self ..); show 0 ≤ g; omega, fun x hx => hd.gr x (by rw [hg]; exact List.mem_cons_of_mem _ hx), hd.ce, hd.tn⟩, rfl⟩
  · exact ⟨hd, rfl⟩
theorem next_dr {n : Int} (h0 : 0 < n) (h1 : n < 1073741824) : Dr 1 (m__law_next [.st, .int n]) fun x => ∃ i, x = .int i ∧ 0 ≤ i ∧ i < n := by
  refine ⟨fun d hd ht => ?_⟩
  unfold m__law_next defM
  rw [Wp_bind]
  show Wp (b__law_next [some .st, some (.int n), none, none, none, none] d) _
  unfold b__law_next
  rw [seq_nx (show cWhile whN (cStPop 0) _ d = .ok (.nx _) (fill1 d) from wh_run _ rfl d hd 999999998)]
  obtain ⟨hd1, ht1⟩ := fill1_ok hd
  generalize fill1 d = d1 at hd1 ht1
  have tst : tB' (eBin dGt (eSt 0 fun d => .int d.dg) (eC (.int 0))) [some .st, some (.int n), none, none, none, none] d1 = .ok (decide (0 < d1.dg)) d1 :=
    tB_run (by rw [bin_run (st_run rfl) (show eC (.int 0) _ d1 = .ok (.int 0) d1 from rfl)]; rfl)
  by_cases z : 0 < d1.dg
  · rw [seq_ret (x := .int (d1.dg % n)) (d1 := { d1 with dg := d1.dg / n })]
    · refine ⟨⟨Int.ediv_nonneg hd1.dg (by omega), hd1.gr, hd1.ce, hd1.tn⟩, ?_, _, rfl, Int.emod_nonneg _ (by omega), Int.emod_lt_of_pos _ h0⟩
      show d1.tn ≤ d.tn + 1
      omega
    · rw [if_run tst, if_pos (by simpa using z)]
      rw [seq_nx (set_nx (x := .int (d1.dg % n)) (d1 := d1) (by rw [bin_run (st_run rfl) (var_run rfl), dMod_int h0]; rfl))]
      rw [seq_nx (e := [some .st, some (.int n), some (.int (d1.dg % n)), none, none, none]) (d1 := { d1 with dg := d1.dg / n })]
      · exact ret_run (var_run rfl)
      · unfold cStDg
        rw [bind_run, bin_run (st_run rfl) (var_run rfl), dDiv_int h0 h1]
        rfl
  · rw [seq_nx (e := [some .st, some (.int n), none, none, none, none]) (d1 := d1) (by rw [if_run tst, if_neg (by simpa using z)]; rfl)]
    have t1 : 1 ≤ d1.tn + 1 := by have := hd1.tn; omega
    have t2 : d1.tn + 1 ≤ 2 ^ 40 := by
      rw [ht1]
      exact ht
    generalize ht3 : d1.tn + 1 = t at t1 t2
    have hd2 : DOk { d1 with tn := t } := ⟨hd1.dg, hd1.gr, hd1.ce, by show 0 ≤ t; omega⟩
    rw [seq_nx (e := [some .st, some (.int n), none, none, none, none]) (d1 := { d1 with tn := t }) (by rw [← ht3]; rfl)]
    rw [seq_nx (set_nx (x := .int t) (d1 := { d1 with tn := t }) (st_run rfl))]
    rw [seq_nx (set_nx (x := .int 0) (d1 := { d1 with tn := t }) rfl)]
    show Wp (cSeq _ _ [some .st, some (.int n), none, some (.int t), some (.int 0), none] _) _
    have hc : ∃ c, 0 ≤ c ∧ c < 10 ^ 18 ∧ cIf (tB' (eSt 0 fun d => .bl (!decide (d.ce = [])))) (cSet 4 (eStCe 0 (eBin dMod (eVar 3) (eSt 0 fun d => .int d.ce.length)))) cNx [some .st, some (.int n), none, some (.int t), some (.int 0), none] { d1 with tn := t } = .ok (.nx [some .st, some (.int n), none, some (.int t), some (.int c), none]) { d1 with tn := t } := by
      have tst2 : tB' (eSt 0 fun d => .bl (!decide (d.ce = []))) [some .st, some (.int n), none, some (.int t), some (.int 0), none] { d1 with tn := t } = .ok (!decide (d1.ce = [])) { d1 with tn := t } := tB_run (st_run rfl)
      by_cases e : d1.ce = []
      · exact ⟨0, by decide, by decide, by rw [if_run tst2, if_neg (by simp [e])]; rfl⟩
      · have lp : 0 < d1.ce.length := List.length_pos_iff.mpr e
        have i0 : 0 ≤ t % (d1.ce.length : Int) := Int.emod_nonneg _ (by omega)
        have i1 : t % (d1.ce.length : Int) < d1.ce.length := Int.emod_lt_of_pos _ (by omega)
        obtain ⟨j, hj⟩ : ∃ j : Nat, t % (d1.ce.length : Int) = j := ⟨_, (Int.toNat_of_nonneg i0).symm⟩
        have hjl : j < d1.ce.length := by omega
        have ha : atI d1.ce (t % (d1.ce.length : Int)) = some d1.ce[j] := by
          rw [hj]
          exact atI_nat (List.getElem?_eq_getElem hjl)
        have hm := hd1.ce _ (List.getElem_mem hjl)
        refine ⟨d1.ce[j], hm.1, hm.2, ?_⟩
        rw [if_run tst2, if_pos (by simp [e])]
        refine set_nx ?_
        unfold eStCe
        have gst : isSt [some D.st, some (.int n), none, some (.int t), some (.int 0), none] 0 = true := rfl
        rw [guard_of gst, bind_run, bin_run (var_run (x := .int t) rfl) (st_run rfl), dMod_int (by show (0 : Int) < (d1.ce.length : Int); omega)]
        show ((rdM (fun d => atI d.ce (t % (d1.ce.length : Int))) >>= fun c => (match c with
          | some c => pure (D.int c)
          | none => bad : M D)) : M D) { d1 with tn := t } = _
        rw [bind_run]
        show (match atI d1.ce (t % (d1.ce.length : Int)) with
          | some c => pure (D.int c)
          | none => bad : M D) { d1 with tn := t } = _
        rw [ha]
        rfl
    obtain ⟨c, c0, c1, hcc⟩ := hc
    rw [seq_nx hcc]
    generalize hd2e : ({ d1 with tn := t } : Drw) = d2 at *
    have en : ∀ {e : Ev} {i : Int}, eC (.int i) e d2 = .ok (.int i) d2 := fun {e i} => rfl
    have m1 : 0 ≤ c % 2147483629 := Int.emod_nonneg _ (by decide)
    have m2 : c % 2147483629 < 2147483629 := Int.emod_lt_of_pos _ (by decide)
    rw [seq_nx (set_nx (x := .int ((c % 2147483629 + 40009 * t) ^ 3 % 2147483647)) (d1 := d2) (by
      rw [bin_run (x := .int ((c % 2147483629 + 40009 * t) ^ 3)) (d1 := d2) (by
        rw [bin_run (x := .int (c % 2147483629 + 40009 * t)) (d1 := d2) (by
          rw [bin_run (x := .int (c % 2147483629)) (d1 := d2) (by rw [bin_run (var_run (x := .int c) rfl) en, dMod_int (by decide)]; rfl) (y := .int (40009 * t)) (d2 := d2) (by rw [bin_run en (var_run (x := .int t) rfl), dMul_int (by decide)]; rfl)]; rfl) en, dPow_int ⟨by decide, by decide, by omega⟩]; rfl) en, dMod_int (by decide)]; rfl))]
    have q1 : 0 ≤ (c % 2147483629 + 40009 * t) ^ 3 % 2147483647 := Int.emod_nonneg _ (by decide)
    have q2 : (c % 2147483629 + 40009 * t) ^ 3 % 2147483647 < 2147483647 := Int.emod_lt_of_pos _ (by decide)
    generalize (c % 2147483629 + 40009 * t) ^ 3 % 2147483647 = mx at q1 q2
    rw [ret_run (x := .int ((mx + 104729 * t) ^ 5 % 2147483629 / 11 % n)) (d1 := d2) (by
      rw [bin_run (x := .int ((mx + 104729 * t) ^ 5 % 2147483629 / 11)) (d1 := d2) (by
        rw [bin_run (x := .int ((mx + 104729 * t) ^ 5 % 2147483629)) (d1 := d2) (by
          rw [bin_run (x := .int ((mx + 104729 * t) ^ 5)) (d1 := d2) (by
            rw [bin_run (x := .int (mx + 104729 * t)) (d1 := d2) (by
              rw [bin_run (var_run (x := .int mx) rfl) (y := .int (104729 * t)) (d2 := d2) (by rw [bin_run en (var_run (x := .int t) rfl), dMul_int (by decide)]; rfl)]; rfl) en, dPow_int ⟨by decide, by decide, by omega⟩]; rfl) en, dMod_int (by decide)]; rfl) en, dDiv_int (by decide) (by decide)]; rfl) (var_run (x := .int n) rfl), dMod_int h0]; rfl)]
    refine ⟨hd2, ?_, _, rfl, Int.emod_nonneg _ (by omega), Int.emod_lt_of_pos _ h0⟩
    rw [← hd2e]
    show t ≤ d.tn + 1
    omega
end Cm
end
section
set_option Elab.async false
set_option linter.all false
set_option maxRecDepth 100000
set_option maxHeartbeats 400000
namespace Cm
open PySem PySem.Spec PyProof.Rows L2 Mir
theorem isSt_bind {α : Type} {m : M α} {k : Nat} {P Q : α → Prop} (h : Dr k m P) (i : ∀ a, P a → Q a) : Dr k m Q := h.imp (Nat.le_refl _) i
theorem guard_true' {α : Type} (m : M α) : guardB true m = m := rfl
/-- one of a list -/
theorem pick_dr {xs : List D} (h0 : xs ≠ []) (h1 : xs.length < 1073741824) : Dr 1 (m__law_pick [.st, .lst xs]) fun x => x ∈ xs := by
  have e : m__law_pick [.st, .lst xs] = m__law_next [.st, .int xs.length] >>= fun y => dAt (.lst xs) y := by
    unfold m__law_pick defM b__law_pick cRet eBin eCall aCons aNil eUn eVar
    simp only [List.map, List.length, List.cons_append, List.nil_append, List.getElem?_cons_zero, List.getElem?_cons_succ, pure_bind', dLen]
    show (((((((m__law_next [.st, .int xs.length]) : M D)) >>= fun y => dAt (.lst xs) y) >>= fun x => pure (Ctl.ret x)) >>= fun c => match c with
      | .ret x => pure x
      | .nx _ => pure .non
      | _ => bad) : M D) = _
    rw [bind_assoc', bind_assoc']
    congr 1
    funext y
    exact bind_pure' _
  rw [e]
  have lp : 0 < xs.length := List.length_pos_iff.mpr h0
  refine Dr.bind (k2 := 0) (next_dr (by omega) (by omega)) (fun y ⟨i, ey, i0, i1⟩ => ?_) (Nat.le_refl _)
  subst ey
  obtain ⟨j, rfl⟩ : ∃ j : Nat, i = j := ⟨_, (Int.toNat_of_nonneg i0).symm⟩
  have hj : j < xs.length := by omega
  have ha : atI xs (j : Int) = some xs[j] := atI_nat (List.getElem?_eq_getElem hj)
  have ed : dAt (.lst xs) (.int (j : Int)) = pure xs[j] := by
    show (match atI xs (j : Int) with
      | some z => pure z
      | none => bad : M D) = _
    rw [ha]
  rw [ed]
  exact Dr.pure (List.getElem_mem hj)
end Cm
end
section
set_option Elab.async false
set_option linter.all false
set_option maxRecDepth 100000
set_option maxHeartbeats 400000
namespace Cm
open PySem PySem.Spec PyProof.Rows L2 Mir
/-- a comprehension that draws, no test -/
theorem lc_dr {e0 : Ev} {t : Ev → D → Option Ev} {me : Ev → M D} {k : Nat} {P : D → Prop} : ∀ (xs acc : List D), (∀ x ∈ xs, ∃ e, t e0 x = some e ∧ Dr k (me e) P) → acc.length + xs.length ≤ sizeLine →
    Dr (xs.length * k) (lcGo e0 t nYes me xs acc) fun ys => ∃ zs, ys = acc ++ zs ∧ zs.length = xs.length ∧ ∀ z ∈ zs, P z
  | [], acc, _, _ => Dr.pure ⟨[], by rw [List.append_nil], rfl, fun _ h => (nomatch h)⟩
  | x :: xs, acc, h, hl => by
    obtain ⟨e, et, hm⟩ := h x (List.mem_cons_self ..)
    have eq : lcGo e0 t nYes me (x :: xs) acc = me e >>= fun y => guardB (decide (acc.length < sizeLine)) (lcGo e0 t nYes me xs (acc ++ [y])) := by
      simp only [lcGo, et, nYes, pure_bind', if_true]
    rw [eq]
    rw [List.length_cons] at hl
    refine Dr.bind (k2 := xs.length * k) hm (fun y py => Dr.guard (decide_eq_true (by omega)) ?_) (by rw [List.length_cons, Nat.add_mul, Nat.one_mul]; omega)
    refine (lc_dr xs (acc ++ [y]) (fun z hz => h z (List.mem_cons_of_mem _ hz)) (by rw [List.length_append, List.length_singleton]; omega)).imp (Nat.le_refl _) fun ys ⟨zs, e1, e2, e3⟩ => ?_
    refine ⟨y :: zs, by rw [e1, List.append_assoc]; rfl, by rw [List.length_cons, e2, List.length_cons], fun z hz => ?_⟩
    rcases List.mem_cons.mp hz with q | q
    · rw [q]; exact py
    · exact e3 z q
/-- a loop that draws: an invariant -/
theorem for_dr {t : Ev → D → Option Ev} {b : Ev → M Ctl} {k : Nat} (J : Nat → Ev → Prop) : ∀ (xs : List D) (i : Nat) (env : Ev), J i env → (∀ j x env, xs[j]? = some x → J (i + j) env → ∃ e, t env x = some e ∧ Dr k (b e) fun c => ∃ e', c = .nx e' ∧ J (i + j + 1) e') →
    Dr (xs.length * k) (forGo t b xs env) fun c => ∃ e', c = .nx e' ∧ J (i + xs.length) e'
  | [], i, env, h, _ => Dr.pure ⟨env, rfl, h⟩
  | x :: xs, i, env, h, hb => by
    obtain ⟨e, et, hd⟩ := hb 0 x env rfl h
    have eq : forGo t b (x :: xs) env = b e >>= fun c => match c with
      | .nx e' => forGo t b xs e'
      | .cont e' => forGo t b xs e'
      | .brk e' => pure (.nx e')
      | .ret y => pure (.ret y) := by
      simp only [forGo, et] <;> rfl
    rw [eq]
    refine Dr.bind (k2 := xs.length * k) hd (fun c ⟨e', ec, j'⟩ => ?_) (by rw [List.length_cons, Nat.add_mul, Nat.one_mul]; omega)
    subst ec
    refine (for_dr J xs (i + 1) e' j' fun j x env hx hj => ?_).imp (Nat.le_refl _) fun c ⟨e2, h1, h2⟩ => ⟨e2, h1, by rw [List.length_cons, Nat.add_comm xs.length 1, ← Nat.add_assoc]; exact h2⟩
    have := hb (j + 1) x env (by simpa using hx) (by rw [← Nat.add_assoc, Nat.add_right_comm]; exact hj)
    rw [← Nat.add_assoc, Nat.add_right_comm i j 1] at this
    exact this
end Cm
end
section
set_option Elab.async false
set_option linter.all false
set_option maxRecDepth 100000
set_option maxHeartbeats 400000
namespace Cm
open PySem PySem.Spec PyProof.Rows L2 Mir
/-- one sign of a text -/
theorem pickS_dr {z : Str} (h0 : 0 < z.cps.toList.length) (h1 : z.length ≤ sizeLine) (hz : z.length = z.cps.toList.length) : Dr 1 (m__law_pick [.st, .str z]) fun x => ∃ c ∈ z.cps.toList, x = .str ⟨#[c]⟩ := by
  have e : m__law_pick [.st, .str z] = m__law_next [.st, .int z.length] >>= fun y => dAt (.str z) y := by
    unfold m__law_pick defM b__law_pick cRet eBin eCall aCons aNil eUn eVar
    simp only [List.map, List.length, List.cons_append, List.nil_append, List.getElem?_cons_zero, List.getElem?_cons_succ, pure_bind', dLen]
    rw [guard_of (decide_eq_true h1)]
    show (((((((m__law_next [.st, .int z.length]) : M D)) >>= fun y => dAt (.str z) y) >>= fun x => pure (Ctl.ret x)) >>= fun c => match c with
      | .ret x => pure x
      | .nx _ => pure .non
      | _ => bad) : M D) = _
    rw [bind_assoc', bind_assoc']
    congr 1
    funext y
    exact bind_pure' _
  rw [e]
  have sz : sizeLine < 1073741824 := by decide
  refine Dr.bind (k2 := 0) (next_dr (by omega) (by omega)) (fun y ⟨i, ey, i0, i1⟩ => ?_) (Nat.le_refl _)
  subst ey
  obtain ⟨j, rfl⟩ : ∃ j : Nat, i = j := ⟨_, (Int.toNat_of_nonneg i0).symm⟩
  have hj : j < z.cps.toList.length := by omega
  have ha : atI z.cps.toList (j : Int) = some z.cps.toList[j] := atI_nat (List.getElem?_eq_getElem hj)
  have ed : dAt (.str z) (.int (j : Int)) = pure (.str ⟨#[z.cps.toList[j]]⟩) := by
    show guardB (decide (z.length ≤ sizeLine)) (match atI z.cps.toList (j : Int) with
      | some c => pure (D.str ⟨#[c]⟩)
      | none => bad : M D) = _
    rw [guard_of (decide_eq_true h1), ha]
  rw [ed]
  exact Dr.pure ⟨_, List.getElem_mem hj, rfl⟩
end Cm
end
section
set_option Elab.async false
set_option linter.all false
set_option maxRecDepth 100000
set_option maxHeartbeats 400000
namespace Cm
open PySem PySem.Spec PyProof.Rows L2 Mir
theorem is_whole_int (i : Int) : m_is_whole [.int i] = pure (.bl true) := by rfl
theorem dLe_int (i j : Int) : dLe (.int i) (.int j) = pure (.bl (decide (i ≤ j))) := rfl
theorem is_from_int (t lo hi : Int) : m_is_from [.int t, .int lo, .int hi] = pure (.bl (decide (lo ≤ t) && decide (t ≤ hi))) := by
  simp only [m_is_from, b_is_from, defM, cRet, eAnd, eCall, aCons, aNil, eVar, eChain, pure_bind', List.map, List.length, List.cons_append, List.getElem?_cons_zero, List.getElem?_cons_succ, dLe_int]
  rw [show (0 + 1 == 1) = true from rfl, guard_true, is_whole_int]
  simp only [pure_bind']
  by_cases h : lo ≤ t
  · simp [h, pure_bind', dLe_int]
  · simp [h, pure_bind', dLe_int]
theorem tired_left (s : Int) : m_tired [.str "left", .int s] = pure (.int (-s)) := by kernel_rfl
theorem tired_even (s : Int) : m_tired [.str "even", .int s] = pure (.int 0) := by kernel_rfl
theorem tired_right (s : Int) : m_tired [.str "right", .int s] = pure (.int s) := by kernel_rfl
theorem weight_none (w : D) : m_weight [w, .non] = pure (.int 0) := by rfl
theorem dLt_int (i j : Int) : dLt (.int i) (.int j) = pure (.bl (decide (i < j))) := rfl
theorem dSub_int (i j : Int) : dSub (.int i) (.int j) = pure (.int (i - j)) := rfl
theorem dInt_bl (b : Bool) : dInt (.bl b) = pure (.int (if b = true then 1 else 0)) := by cases b <;> rfl
theorem sign_eq (t : Int) : m__law_sign [.int t] = pure (.int (if 0 < t then 1 else if t < 0 then -1 else 0)) := by
  have e : m__law_sign [.int t] = pure (.int ((if decide (0 < t) = true then 1 else 0) - (if decide (t < 0) = true then 1 else 0))) := by
    simp only [m__law_sign, b__law_sign, defM, cRet, eBin, eUn, eVar, eC, pure_bind', List.map, List.length, List.cons_append, List.getElem?_cons_zero, dGt_int, dLt_int, dInt_bl, dSub_int]
  rw [e]
  by_cases h : 0 < t
  · have h2 : ¬ t < 0 := by omega
    simp [h, h2]
  · by_cases h2 : t < 0 <;> simp [h, h2]
end Cm
end
section
set_option Elab.async false
set_option linter.all false
set_option maxRecDepth 100000
set_option maxHeartbeats 400000
namespace Cm
open PySem PySem.Spec PyProof.Rows L2 Mir
/-- a name: one to eight small letters -/
def NameOk (x : Str) : Prop := 1 ≤ x.cps.size ∧ x.cps.size ≤ 8 ∧ ∀ c ∈ x.cps.toList, c ∈ ("abcdefghijklmnopqrstuvwxyz" : Str).cps.toList
theorem all_go {e0 : Ev} : ∀ (cs : List Nat) (acc : List D), (∀ c ∈ cs, c ∈ ("abcdefghijklmnopqrstuvwxyz" : Str).cps.toList) → acc.length + cs.length ≤ sizeLine → 1 < e0.length →
    lcGo e0 (gN 1) nYes (eBin (dIn false) (eVar 1) (eC (.str "abcdefghijklmnopqrstuvwxyz"))) (cs.map fun c => D.str ⟨#[c]⟩) acc = pure (acc ++ cs.map fun _ => D.bl true)
  | [], acc, _, _, _ => by rw [List.map_nil, List.map_nil, List.append_nil]; rfl
  | c :: cs, acc, h, hl, he => by
    have hc := h c (List.mem_cons_self ..)
    rw [List.length_cons] at hl
    have e1 : eBin (dIn false) (eVar 1) (eC (.str "abcdefghijklmnopqrstuvwxyz")) (e0.set 1 (some (.str ⟨#[c]⟩))) = pure (.bl true) := by
      unfold eBin eVar eC
      rw [List.getElem?_set_self he]
      simp only [pure_bind']
      show guardB (decide ((⟨#[c]⟩ : Str).cps.size = 1)) (pure (D.bl (decide (c ∈ ("abcdefghijklmnopqrstuvwxyz" : Str).cps.toList)))) = _
      rw [decide_eq_true hc]
      rfl
    rw [List.map_cons, List.map_cons]
    simp only [lcGo, gN, nYes, pure_bind', if_true]
    rw [e1]
    simp only [pure_bind']
    rw [guard_of (decide_eq_true (by omega)), all_go (e0 := e0) cs (acc ++ [D.bl true]) (fun x hx => h x (List.mem_cons_of_mem _ hx)) (by rw [List.length_append, List.length_singleton]; omega) he, List.append_assoc]
    rfl
/-! ### parts that draw nothing, evaluated -/
section
variable {ma mb mc m : Ev → M D} {n : Ev → M Bool} {a b : Ev → M Ctl} {env e : Ev} {x y z : D} {g g2 : D → D → M D} {u : D → M D}
theorem and_t (h : ma env = pure (.bl true)) : eAnd ma mb env = mb env := by unfold eAnd; rw [h]; rfl
theorem and_f (h : ma env = pure (.bl false)) : eAnd ma mb env = pure (.bl false) := by unfold eAnd; rw [h]; rfl
theorem ret_p (h : m env = pure x) : cRet m env = pure (.ret x) := by unfold cRet; rw [h]; rfl
theorem set_p {i : Nat} (h : m env = pure x) : cSet i m env = pure (.nx (env.set i (some x))) := by unfold cSet; rw [h]; rfl
theorem seq_p (h : a env = pure (.nx e)) : cSeq a b env = b e := by unfold cSeq; rw [h]; rfl
theorem if_p {t : Bool} (h : n env = pure t) : cIf n a b env = if t = true then a env else b env := by unfold cIf; rw [h]; rfl
theorem tB_p {t : Bool} (h : m env = pure (.bl t)) : tB' m env = pure t := by unfold tB'; rw [h]; rfl
theorem un_p (h : m env = pure x) : eUn u m env = u x := by unfold eUn; rw [h]; rfl
theorem bin_p (h1 : ma env = pure x) (h2 : mb env = pure y) : eBin g ma mb env = g x y := by unfold eBin; rw [h1, pure_bind', h2]; rfl
theorem chain_t (h1 : ma env = pure x) (h2 : mb env = pure y) (h3 : mc env = pure z) (h : g x y = pure (.bl true)) : eChain g g2 ma mb mc env = g2 y z := by
  unfold eChain
  rw [h1, pure_bind', h2, pure_bind', h, pure_bind']
  show (mc env >>= fun w => g2 y w) = _
  rw [h3]; rfl
theorem def_p {nl : Nat} {ds : List D} (h : a (ds.map some ++ List.replicate (nl - ds.length) none) = pure (.ret x)) : defM nl a ds = pure x := by unfold defM; rw [h]; rfl
end
theorem bls_true : ∀ cs : List Nat, bls (cs.map fun _ => D.bl true) = some (cs.map fun _ => true)
  | [] => rfl
  | c :: cs => by
    rw [List.map_cons, List.map_cons]
    simp only [bls, bls_true cs, Option.map_some]
theorem is_name_ok {x : Str} (h : NameOk x) : m_is_name [.str x] = pure (.bl true) := by
  obtain ⟨h1, h2, h3⟩ := h
  have hl : x.length = x.cps.size := rfl
  have sz : (8 : Nat) ≤ sizeLine := by decide
  have lc : eLc (iOn dIt (eVar 0)) [1] (gN 1) nYes (eBin (dIn false) (eVar 1) (eC (.str "abcdefghijklmnopqrstuvwxyz"))) [some (.str x), none] = pure (.lst (x.cps.toList.map fun _ => D.bl true)) := by
    unfold eLc iOn
    show (lcGo (wipeE [some (.str x), none] [1]) (gN 1) nYes _ (charsD x) [] >>= fun ys => pure (D.lst ys)) = _
    unfold charsD
    rw [all_go (e0 := wipeE [some (.str x), none] [1]) _ [] h3 (by simp; omega) (show 1 < 2 by decide)]
    rfl
  have ln : eUn dLen (eVar 0) [some (.str x), none] = pure (.int x.length) := by
    show guardB (decide (x.length ≤ sizeLine)) (pure (D.int x.length)) = _
    rw [guard_of (decide_eq_true (by omega))]
  have all : dAll (.lst (x.cps.toList.map fun _ => D.bl true)) = pure (.bl true) := by
    show (match bls (x.cps.toList.map fun _ => D.bl true) with
      | some bs => pure (D.bl (bs.all id))
      | none => bad : M D) = _
    rw [bls_true]
    show pure (D.bl ((x.cps.toList.map fun _ => true).all id)) = _
    congr 2
    simp
  have c1 : (1 : Int) ≤ x.length := by omega
  have c2 : (x.length : Int) ≤ 8 := by omega
  refine def_p (ret_p ?_)
  show eAnd _ _ [some (.str x), none] = _
  rw [and_t (show eUn (dIsi isStr) (eVar 0) [some (.str x), none] = pure (.bl true) from rfl)]
  rw [and_t (show eChain dLe dLe (eC (.int 1)) (eUn dLen (eVar 0)) (eC (.int 8)) [some (.str x), none] = pure (.bl true) from by
    rw [chain_t (z := .int 8) rfl ln rfl (by rw [dLe_int, decide_eq_true c1]), dLe_int, decide_eq_true c2])]
  rw [un_p lc]
  exact all
end Cm
end
section
set_option Elab.async false
set_option linter.all false
set_option maxRecDepth 100000
set_option maxHeartbeats 400000
/-! plain data of the laws: names, pans, dicts of whole numbers -/
namespace Cm
open PySem PySem.Spec PyProof.Rows L2 Mir
def panD : Option Str → D
  | none => .non
  | some x => .str x
def beamD (p : Str × Int) : D := .tup [.str p.1, .int p.2]
/-- a dict of whole numbers: its keys in order, what stands under each -/
def dOf (ks : List Str) (f : Str → Int) : List (Key × D) := ks.map fun k => (.inr k, .int (f k))
def updF (f : Str → Int) (k : Str) (v : Int) : Str → Int := fun x => if x = k then v else f x
theorem updF_same (f : Str → Int) (k : Str) (v : Int) : updF f k v k = v := if_pos rfl
theorem dOf_length (ks : List Str) (f : Str → Int) : (dOf ks f).length = ks.length := List.length_map ..
theorem lookD_dOf {f : Str → Int} {k : Str} : ∀ {ks : List Str}, k ∈ ks → lookD (dOf ks f) (.inr k) = some (.int (f k))
  | x :: ks, h => by
    unfold lookD dOf
    rw [List.map_cons, List.find?_cons]
    by_cases e : x = k
    · subst e
      simp
    · have ne : (decide ((Sum.inr x : Key) = .inr k)) = false := by simp [e]
      rw [ne]
      exact lookD_dOf (ks := ks) ((List.mem_cons.mp h).resolve_left fun z => e z.symm)
theorem lookD_none {f : Str → Int} {k : Str} {ks : List Str} (h : k ∉ ks) : lookD (dOf ks f) (.inr k) = none := by
  unfold lookD dOf
  rw [List.find?_eq_none.mpr]
  · rfl
  · intro p hp
    obtain ⟨x, hx, rfl⟩ := List.mem_map.mp hp
    simp
    intro e
    exact h (e ▸ hx)
theorem putD_dOf {f : Str → Int} {k : Str} {v : Int} {ks : List Str} (h : k ∈ ks) : putD (dOf ks f) (.inr k) (.int v) = dOf ks (updF f k v) := by
  have a : ((dOf ks f).any fun kv => decide (kv.1 = (Sum.inr k : Key))) = true := List.any_eq_true.mpr ⟨(.inr k, .int (f k)), List.mem_map.mpr ⟨k, h, rfl⟩, by simp⟩
  unfold putD
  rw [if_pos a]
  unfold dOf
  rw [List.map_map]
  refine List.map_congr_left fun x _ => ?_
  show (if (Sum.inr x : Key) = .inr k then (Sum.inr x, D.int v) else (Sum.inr x, D.int (f x))) = (Sum.inr x, D.int (updF f k v x))
  unfold updF
  by_cases e : x = k
  · subst e; simp
  · simp [e]
theorem putD_new {kvs : List (Key × D)} {k : Key} {v : D} (h : ∀ p ∈ kvs, p.1 ≠ k) : putD kvs k v = kvs ++ [(k, v)] := by
  unfold putD
  rw [if_neg]
  intro a
  obtain ⟨p, hp, e⟩ := List.any_eq_true.mp a
  exact h p hp (of_decide_eq_true e)
theorem mergeD_new : ∀ (more kvs : List (Key × D)), (kvs.map (·.1) ++ more.map (·.1)).Nodup → mergeD kvs more = kvs ++ more
  | [], kvs, _ => by rw [List.append_nil]; rfl
  | (k, v) :: more, kvs, h => by
    have e : mergeD kvs ((k, v) :: more) = mergeD (putD kvs k v) more := rfl
    have h1 : ∀ p ∈ kvs, p.1 ≠ k := fun p hp e => by
      rw [List.nodup_append] at h
      exact h.2.2 p.1 (List.mem_map.mpr ⟨p, hp, rfl⟩) k (by simp) e
    rw [e, putD_new h1, mergeD_new more _ (by rw [List.map_append, List.append_assoc]; exact h), List.append_assoc]
    rfl
theorem mergeD_dOf {ks : List Str} {f : Str → Int} (h : ks.Nodup) : mergeD [] (dOf ks f) = dOf ks f := by
  rw [mergeD_new _ _ _, List.nil_append]
  show ((dOf ks f).map (·.1)).Nodup
  unfold dOf
  rw [List.map_map]
  exact List.Pairwise.map _ (fun a b e z => e (by injection z)) h
/-- what stands behind a name in a list of pairs -/
def fnOf (l : List (Str × Int)) (k : Str) : Int := ((l.find? fun p => decide (p.1 = k)).map (·.2)).getD 0
theorem fnOf_mem : ∀ {l : List (Str × Int)}, (l.map (·.1)).Nodup → ∀ {p : Str × Int}, p ∈ l → fnOf l p.1 = p.2
  | q :: l, h, p, hp => by
    unfold fnOf
    rw [List.find?_cons]
    rw [List.map_cons, List.nodup_cons] at h
    rcases List.mem_cons.mp hp with e | e
    · subst e; simp
    · have ne : q.1 ≠ p.1 := fun z => h.1 (z ▸ List.mem_map.mpr ⟨p, e, rfl⟩)
      simp only [ne, decide_false]
      exact fnOf_mem h.2 e
theorem pairsD_beams : ∀ l : List (Str × Int), pairsD (l.map beamD) = some (l.map fun p => (Sum.inr p.1, D.int p.2))
  | [] => rfl
  | p :: l => by
    rw [List.map_cons, List.map_cons]
    show (match pairD (beamD p), pairsD (l.map beamD) with
      | some a, some b => some (a :: b)
      | _, _ => none) = _
    rw [pairsD_beams l]
    rfl
theorem dict_beams {l : List (Str × Int)} (h : (l.map (·.1)).Nodup) : dDict (.lst (l.map beamD)) = pure (.dic (dOf (l.map (·.1)) (fnOf l))) := by
  show (match pairsD (l.map beamD) with
    | some kd => pure (D.dic (mergeD [] kd))
    | none => bad) = _
  rw [pairsD_beams]
  have e : (l.map fun p => ((Sum.inr p.1 : Key), D.int p.2)) = dOf (l.map (·.1)) (fnOf l) := by
    unfold dOf
    rw [List.map_map]
    exact List.map_congr_left fun p hp => by
      show (Sum.inr p.1, D.int p.2) = (Sum.inr p.1, D.int (fnOf l p.1))
      rw [fnOf_mem h hp]
  show pure (D.dic (mergeD [] (l.map fun p => ((Sum.inr p.1 : Key), D.int p.2)))) = _
  rw [e, mergeD_dOf h]
theorem dAt_dOf {ks : List Str} {f : Str → Int} {k : Str} (h : k ∈ ks) : dAt (.dic (dOf ks f)) (.str k) = pure (.int (f k)) := by
  show (match lookD (dOf ks f) (.inr k) with
    | some z => pure z
    | none => bad) = _
  rw [lookD_dOf h]
theorem dEq_str (x y : Str) : dEq (.str x) (.str y) = pure (.bl (decide (x = y))) := rfl
theorem dNe_str (x y : Str) : dNe (.str x) (.str y) = pure (.bl (!decide (x = y))) := rfl
theorem dNe_int (i j : Int) : dNe (.int i) (.int j) = pure (.bl (!decide (i = j))) := by
  have h : ∀ k : Int, SeqAt.shaped (.int k) = true := fun k => by simp [SeqAt.shaped, PyData.canLay0, PyData.depth]
  have e : (PyData.int i).eqv (.int j) = decide (i = j) := by
    simp only [PyData.eqv]
    exact Bool.eq_iff_iff.mpr (by simp)
  simp [dNe, dEqB, dEqP, toPy, guardB, h, e]
theorem inD_strs (x : Str) : ∀ xs : List Str, inD (.str x) (xs.map .str) = decide (x ∈ xs)
  | [] => rfl
  | y :: xs => by
    have e : inD (.str x) ((y :: xs).map .str) = ((y == x) || inD (.str x) (xs.map .str)) := rfl
    rw [e, inD_strs x xs, Bool.eq_iff_iff, Bool.or_eq_true, beq_iff_eq, decide_eq_true_iff, decide_eq_true_iff, List.mem_cons, eq_comm (a := y)]
theorem flat_strs : ∀ xs : List Str, (xs.map D.str).all flatD = true
  | [] => rfl
  | x :: xs => by rw [List.map_cons, List.all_cons, flat_strs xs]; rfl
theorem dNin_strs (x : Str) (xs : List Str) : dNin (.str x) (.lst (xs.map .str)) = pure (.bl (!decide (x ∈ xs))) := by
  show guardB (flatD (.str x) && (xs.map D.str).all flatD) (pure (D.bl (!inD (.str x) (xs.map .str)))) = _
  rw [flat_strs, inD_strs]
  rfl
theorem dIn_strs (x : Str) (xs : List Str) : dIn false (.str x) (.lst (xs.map .str)) = pure (.bl (decide (x ∈ xs))) := by
  show guardB (flatD (.str x) && (xs.map D.str).all flatD) (pure (D.bl (inD (.str x) (xs.map .str)))) = _
  rw [flat_strs, inD_strs]
  rfl
theorem dIn_dOf {ks : List Str} {f : Str → Int} {k : Str} (h : k ∈ ks) : dIn false (.str k) (.dic (dOf ks f)) = pure (.bl true) := by
  show pure (D.bl (lookD (dOf ks f) (.inr k)).isSome) = _
  rw [lookD_dOf h]
  rfl
theorem dIsN_pan (p : Option Str) : dIsN false (panD p) .non = pure (.bl (decide (p = none))) := by cases p <;> rfl
theorem dIsNn_pan (p : Option Str) : dIsN true (panD p) .non = pure (.bl (!decide (p = none))) := by cases p <;> rfl
theorem dNe_pan (p q : Option Str) (hp : ∀ x, p = some x → PyData.strOk x = true) (hq : ∀ x, q = some x → PyData.strOk x = true) : dNe (panD p) (panD q) = pure (.bl (!decide (p = q))) := by
  have hn : SeqAt.shaped .none = true := by simp [SeqAt.shaped, PyData.canLay0, PyData.depth]
  have hs : ∀ x, PyData.strOk x = true → SeqAt.shaped (.str x) = true := fun x h => by simp [SeqAt.shaped, PyData.canLay0, PyData.depth, h]
  cases p with
  | none =>
    cases q with
    | none => simp [dNe, dEqB, dEqP, panD, toPy, guardB, hn, PyData.eqv]
    | some y => simp [dNe, dEqB, dEqP, panD, toPy, guardB, hn, hs y (hq y rfl), PyData.eqv]
  | some x =>
    cases q with
    | none => simp [dNe, dEqB, dEqP, panD, toPy, guardB, hn, hs x (hp x rfl), PyData.eqv]
    | some y =>
      show pure (D.bl (!decide (x = y))) = _
      congr 2
      simp
theorem NameOk.ok {x : Str} (h : NameOk x) : PyData.strOk x = true := by
  have g : ∀ c ∈ ("abcdefghijklmnopqrstuvwxyz" : Str).cps.toList, c < 0x110000 := by decide +kernel
  unfold PyData.strOk
  rw [Array.all_eq_true']
  exact fun c hc => decide_eq_true (g c (h.2.2 c (Array.mem_toList_iff.mpr hc)))
end Cm
end
section
set_option Elab.async false
set_option linter.all false
set_option maxRecDepth 100000
set_option maxHeartbeats 400000
/-! yards and what is one of theirs -/
namespace Cm
open PySem PySem.Spec PyProof.Rows L2 Mir
structure Yd where
  ns : List Str
  bs : List (Str × Int)
  mo : Int
  le : Int
structure YdOk (y : Yd) : Prop where
  n1 : 1 ≤ y.ns.length
  n8 : y.ns.length ≤ 8
  nk : ∀ x ∈ y.ns, NameOk x
  nd : y.ns.Nodup
  b1 : 1 ≤ y.bs.length
  b3 : y.bs.length ≤ 3
  bk : ∀ p ∈ y.bs, NameOk p.1
  bd : (y.bs.map (·.1)).Nodup
  st : ∀ p ∈ y.bs, -5 ≤ p.2 ∧ p.2 ≤ 5 ∧ p.2 ≠ 0
  m1 : 1 ≤ y.mo
  m2 : y.mo ≤ 100
  l1 : 0 ≤ y.le
  l2 : y.le ≤ 9
  tu : (2 * y.le + 1) ^ y.bs.length ≤ 400
def Yd.bn (y : Yd) : List Str := y.bs.map (·.1)
abbrev namesD (xs : List Str) : List D := xs.map .str
abbrev beamsD (l : List (Str × Int)) : List D := l.map beamD
def fldsD (y : Yd) : List (Str × D) := [("thing_names", .plt (namesD y.ns)), ("beam_steps", .plt (beamsD y.bs)), ("heaviest", .int y.mo), ("farthest", .int y.le)]
def courtD (y : Yd) : D := .obj "Yard" (fldsD y)
def rowD (y : Yd) : D := .tup [.lst (namesD y.ns), .lst (beamsD y.bs), .int y.mo, .int y.le]
theorem lk_things (y : Yd) : (fldsD y).lookup ("thing_names" : Str) = some (.plt (namesD y.ns)) := by kernel_rfl
theorem lk_beams (y : Yd) : (fldsD y).lookup ("beam_steps" : Str) = some (.plt (beamsD y.bs)) := by kernel_rfl
theorem lk_most (y : Yd) : (fldsD y).lookup ("heaviest" : Str) = some (.int y.mo) := by kernel_rfl
theorem lk_lean (y : Yd) : (fldsD y).lookup ("farthest" : Str) = some (.int y.le) := by kernel_rfl
theorem lk_m1 (y : Yd) : (fldsD y).lookup ("things" : Str) = none := by kernel_rfl
theorem lk_m2 (y : Yd) : (fldsD y).lookup ("beams" : Str) = none := by kernel_rfl
theorem lk_m3 (y : Yd) : (fldsD y).lookup ("most" : Str) = none := by kernel_rfl
theorem lk_m4 (y : Yd) : (fldsD y).lookup ("lean" : Str) = none := by kernel_rfl
theorem things_eq (y : Yd) : m_Yard_things [courtD y] = pure (.lst (namesD y.ns)) := def_ret (st_ret (ev_un (ev_fld (ev_var rfl) (lk_things y)) rfl))
theorem beams_eq (y : Yd) : m_Yard_beams [courtD y] = pure (.lst (beamsD y.bs)) := def_ret (st_ret (ev_un (ev_fld (ev_var rfl) (lk_beams y)) rfl))
theorem most_eq (y : Yd) : m_Yard_most [courtD y] = pure (.int y.mo) := def_ret (st_ret (ev_fld (ev_var rfl) (lk_most y)))
theorem lean_eq (y : Yd) : m_Yard_lean [courtD y] = pure (.int y.le) := def_ret (st_ret (ev_fld (ev_var rfl) (lk_lean y)))
section
variable {y : Yd} {mo : Ev → M D} {env : Ev}
theorem ev_things (h : mo env = pure (courtD y)) : eMeth "Yard" "things" 1 m_Yard_things mo aNil env = pure (.lst (namesD y.ns)) := ev_meth h (lk_m1 y) ev_nil rfl (things_eq y)
theorem ev_beams (h : mo env = pure (courtD y)) : eMeth "Yard" "beams" 1 m_Yard_beams mo aNil env = pure (.lst (beamsD y.bs)) := ev_meth h (lk_m2 y) ev_nil rfl (beams_eq y)
theorem ev_most (h : mo env = pure (courtD y)) : eMeth "Yard" "most" 1 m_Yard_most mo aNil env = pure (.int y.mo) := ev_meth h (lk_m3 y) ev_nil rfl (most_eq y)
theorem ev_lean (h : mo env = pure (courtD y)) : eMeth "Yard" "lean" 1 m_Yard_lean mo aNil env = pure (.int y.le) := ev_meth h (lk_m4 y) ev_nil rfl (lean_eq y)
end
/-- the names of the beams, told one by one -/
theorem lc_bn {e0 : Ev} {l : List (Str × Int)} (h : 3 < e0.length) (hl : l.length ≤ 1000) : lcGo e0 (gT (gsCons (gN 2) (gsCons (gN 3) gsNil))) nYes (eVar 2) (beamsD l) [] = pure (namesD (l.map (·.1))) := by
  have hz : (1000 : Nat) ≤ sizeLine := by decide
  rw [lc_map (f := fun d => match d with
    | .tup [a, _] => a
    | _ => .non)]
  · rw [List.nil_append, List.map_map]
    show pure (l.map fun p => D.str p.1) = (pure ((l.map (·.1)).map D.str) : M (List D))
    rw [List.map_map]
    rfl
  · intro x hx
    obtain ⟨p, _, rfl⟩ := List.mem_map.mp hx
    refine ⟨_, rfl, rfl, ev_var ?_⟩
    rw [List.getElem?_set_ne (by decide), List.getElem?_set_self (by omega)]
    rfl
  · rw [List.length_map, List.length_nil]; omega
theorem need_beam_eq {y : Yd} (o : YdOk y) {b : Str} (h : b ∈ y.bn) : m_need_beam [courtD y, .str b] = pure .non := by
  have hb := o.b3
  refine def_nx (st_iff (t := _) (by
    refine ev_tOr (t1 := false) (t2 := false) ?_ ?_
    · exact ev_tNot (t := true) (ev_tB (ev_un (ev_var rfl) rfl))
    · intro _
      refine ev_tB (ev_bin (ev_var rfl) (ev_lc (ev_iOn (ev_beams (ev_var rfl)) rfl) (lc_bn (show 3 < 4 by decide) (by omega))) ?_)
      rw [dNin_strs]
      rw [decide_eq_true (show b ∈ y.bs.map (·.1) from h)]
      rfl) rfl st_nx)
def PanOk (y : Yd) (p : Option Str) : Prop := ∀ x, p = some x → x ∈ y.ns
theorem need_pan_eq {y : Yd} {p : Option Str} (h : PanOk y p) : m_need_pan [courtD y, panD p] = pure .non := by
  cases p with
  | none => exact def_nx (st_iff (t := false) (ev_tAnd (t1 := false) (t2 := false) (ev_tB (ev_bin (ev_var rfl) ev_c rfl)) fun e => nomatch e) rfl st_nx)
  | some x =>
    refine def_nx (st_iff (t := _) (ev_tAnd (t1 := true) (t2 := false) (ev_tB (ev_bin (ev_var rfl) ev_c rfl)) fun _ => ?_) rfl st_nx)
    refine ev_tOr (t1 := false) (t2 := false) (ev_tNot (t := true) (ev_tB (ev_un (ev_var rfl) rfl))) fun _ => ?_
    refine ev_tB (ev_bin (ev_var rfl) (ev_things (ev_var rfl)) ?_)
    show dNin (.str x) _ = _
    rw [dNin_strs, decide_eq_true (h x rfl)]
    rfl
structure Wg where
  b : Str
  l : Option Str
  r : Option Str
structure WgOk (y : Yd) (w : Wg) : Prop where
  b : w.b ∈ y.bn
  l : PanOk y w.l
  r : PanOk y w.r
  ne : w.l = none ∨ w.l ≠ w.r
def wgD (w : Wg) : D := .tup [.str w.b, panD w.l, panD w.r]
theorem PanOk.ok {y : Yd} (o : YdOk y) {p : Option Str} (h : PanOk y p) : ∀ x, p = some x → PyData.strOk x = true := fun x e => (o.nk x (h x e)).ok
theorem are_parts_eq {y : Yd} (o : YdOk y) {w : Wg} (h : WgOk y w) : m_are_parts [courtD y, .str w.b, panD w.l, panD w.r] = pure (.bl true) := by
  refine def_ret ?_
  refine st_seq (st_seq (st_drop (ev_call (ev_cons (ev_var rfl) (ev_cons (ev_var rfl) ev_nil)) rfl (need_beam_eq o h.b)))
    (st_seq (st_drop (ev_call (ev_cons (ev_var rfl) (ev_cons (ev_var rfl) ev_nil)) rfl (need_pan_eq h.l)))
      (st_drop (ev_call (ev_cons (ev_var rfl) (ev_cons (ev_var rfl) ev_nil)) rfl (need_pan_eq h.r))))) ?_
  rw [st_ret (ev_or (t1 := decide (w.l = none)) (t2 := !decide (w.l = w.r)) (ev_bin (ev_var rfl) ev_c (dIsN_pan _)) fun _ => ev_bin (ev_var rfl) (ev_var rfl) (dNe_pan _ _ (h.l.ok o) (h.r.ok o)))]
  rcases h.ne with e | e
  · rw [decide_eq_true e]; rfl
  · rw [decide_eq_false e, Bool.not_false, Bool.or_true]
theorem is_weighing_eq {y : Yd} (o : YdOk y) {w : Wg} (h : WgOk y w) : m_is_weighing [courtD y, wgD w] = pure (.bl true) := by
  refine def_ret (st_ret (ev_and (t1 := true) (t2 := true) (ev_un (ev_var rfl) rfl) fun _ => ev_and (t1 := true) (t2 := true) (ev_bin (x := .int 3) (ev_un (ev_var rfl) rfl) ev_c ?_) fun _ => ?_))
  · rw [dEq_int]; rfl
  · exact ev_call (ev_cons (ev_var rfl) (ev_cons (ev_bin (ev_var rfl) ev_c rfl) (ev_cons (ev_bin (ev_var rfl) ev_c rfl) (ev_cons (ev_bin (ev_var rfl) ev_c rfl) ev_nil)))) rfl (are_parts_eq o h)
def words3 : List Str := ["left", "even", "right"]
structure Rw where
  w : Wg
  u : Str
structure RwOk (y : Yd) (r : Rw) : Prop where
  w : WgOk y r.w
  u : r.u ∈ words3
def rwD (r : Rw) : D := .tup [.str r.w.b, panD r.w.l, panD r.w.r, .str r.u]
theorem is_row_eq {y : Yd} (o : YdOk y) {r : Rw} (h : RwOk y r) : m_is_row [courtD y, rwD r] = pure (.bl true) := by
  refine def_ret (st_seq (st_iff (t := _) (ev_tOr (t1 := false) (t2 := false) (ev_tNot (t := true) (ev_tB (ev_un (ev_var rfl) rfl))) fun _ => ?_) rfl st_nx) (st_ret (ev_and (t1 := true) (t2 := true) (ev_un (ev_bin (ev_var rfl) ev_c rfl) rfl) fun _ => ev_bin (ev_bin (ev_var rfl) ev_c rfl) ev_c ?_)))
  · refine ev_tOr (t1 := false) (t2 := false) (ev_tB (ev_bin (x := .int 4) (ev_un (ev_var rfl) rfl) ev_c ?_)) fun _ => ev_tNot (t := true) (ev_tB ?_)
    · rw [dNe_int]; rfl
    · exact ev_call (ev_cons (ev_var rfl) (ev_cons (ev_bin (ev_var rfl) ev_c rfl) (ev_cons (ev_bin (ev_var rfl) ev_c rfl) (ev_cons (ev_bin (ev_var rfl) ev_c rfl) ev_nil)))) rfl (are_parts_eq o h.w)
  · show dIn false (.str r.u) (.tup (namesD words3)) = _
    show guardB (flatD (.str r.u) && (namesD words3).all flatD) (pure (D.bl (inD (.str r.u) (words3.map .str)))) = _
    rw [inD_strs, decide_eq_true h.u]
    rfl
theorem enum_each {P : D → Prop} : ∀ (xs : List D) (i : Nat), (∀ x ∈ xs, P x) → ∀ z ∈ enumD i xs, ∃ (j : Nat) (x : D), z = .tup [.int j, x] ∧ P x
  | [], _, _, z, hz => nomatch hz
  | x :: xs, i, h, z, hz => by
    rcases List.mem_cons.mp hz with e | e
    · exact ⟨i, x, e, h x (List.mem_cons_self ..)⟩
    · exact enum_each xs (i + 1) (fun y hy => h y (List.mem_cons_of_mem _ hy)) z e
/-- a list or a tuple of these -/
inductive SeqOf (xs : List D) : D → Prop
  | lst : SeqOf xs (.lst xs)
  | tup : SeqOf xs (.tup xs)
theorem SeqOf.it {xs : List D} {d : D} (h : SeqOf xs d) : dIt d = pure xs := by cases h <;> rfl
theorem SeqOf.en {xs : List D} {d : D} (h : SeqOf xs d) : dEnum [d] = pure (enumD 0 xs) := by cases h <;> rfl
theorem SeqOf.si {xs : List D} {d : D} (h : SeqOf xs d) : dIsi (fun x => isLst x || isTup x) d = pure (.bl true) := by cases h <;> rfl
theorem SeqOf.ls {xs : List D} {d : D} (h : SeqOf xs d) : dList d = pure (.lst xs) := by cases h <;> rfl
theorem SeqOf.tp {xs : List D} {d : D} (h : SeqOf xs d) : dTuple d = pure (.tup xs) := by cases h <;> rfl
theorem need_log_eq {y : Yd} (o : YdOk y) {rs : List Rw} (h : ∀ r ∈ rs, RwOk y r) {d : D} (hd : SeqOf (rs.map rwD) d) : m_need_log [courtD y, d] = pure .non := by
  have go : ∀ env : Ev, env[0]? = some (some (courtD y)) → env.length = 4 → ∃ e', forGo (gT (gsCons (gN 2) (gsCons (gN 3) gsNil))) (cIf (tNot' (tB' (eCall 2 m_is_row (aCons (eVar 0) (aCons (eVar 3) aNil))))) cNever cNx) (enumD 0 (rs.map rwD)) env = pure (.nx e') := fun env h0 h4 => by
    obtain ⟨e', e1, _⟩ := for_fold (σ := Unit) (fun _ env => env[0]? = some (some (courtD y)) ∧ env.length = 4) (fun s _ => s) (tg := gT (gsCons (gN 2) (gsCons (gN 3) gsNil))) (b := cIf (tNot' (tB' (eCall 2 m_is_row (aCons (eVar 0) (aCons (eVar 3) aNil))))) cNever cNx) (enumD 0 (rs.map rwD)) () env ⟨h0, h4⟩ fun z hz s env hj => by
      obtain ⟨j, x, rfl, r, hr, rfl⟩ := enum_each (P := fun x => ∃ r ∈ rs, x = rwD r) _ 0 (fun x hx => by obtain ⟨r, h1, h2⟩ := List.mem_map.mp hx; exact ⟨r, h1, h2.symm⟩) z hz
      refine ⟨_, _, rfl, st_iff (t := _) (ev_tNot (t := true) (ev_tB (ev_call (ev_cons (x := courtD y) (ev_var ?_) (ev_cons (x := rwD r) (ev_var ?_) ev_nil)) rfl (is_row_eq o (h r hr))))) rfl st_nx, ?_, ?_⟩
      · rw [List.getElem?_set_ne (by decide), List.getElem?_set_ne (by decide)]; exact hj.1
      · rw [List.getElem?_set_self (by rw [List.length_set]; omega)]
      · rw [List.getElem?_set_ne (by decide), List.getElem?_set_ne (by decide)]; exact hj.1
      · rw [List.length_set, List.length_set]; exact hj.2
    exact ⟨e', e1⟩
  obtain ⟨e', he⟩ := go [some (courtD y), some d, none, none] rfl rfl
  exact def_nx (st_seq (st_iff (t := _) (ev_tNot (t := true) (ev_tB (ev_un (ev_var rfl) hd.si))) rfl st_nx) (st_for (ev_iOns (ev_cons (ev_var rfl) ev_nil) hd.en) he))
theorem need_weighings_eq {y : Yd} (o : YdOk y) {ws : List Wg} (h : ∀ w ∈ ws, WgOk y w) {d : D} (hd : SeqOf (ws.map wgD) d) : m_need_weighings [courtD y, d] = pure .non := by
  have go : ∀ env : Ev, env[0]? = some (some (courtD y)) → env.length = 4 → ∃ e', forGo (gT (gsCons (gN 2) (gsCons (gN 3) gsNil))) (cIf (tNot' (tB' (eCall 2 m_is_weighing (aCons (eVar 0) (aCons (eVar 3) aNil))))) cNever cNx) (enumD 0 (ws.map wgD)) env = pure (.nx e') := fun env h0 h4 => by
    obtain ⟨e', e1, _⟩ := for_fold (σ := Unit) (fun _ env => env[0]? = some (some (courtD y)) ∧ env.length = 4) (fun s _ => s) (tg := gT (gsCons (gN 2) (gsCons (gN 3) gsNil))) (b := cIf (tNot' (tB' (eCall 2 m_is_weighing (aCons (eVar 0) (aCons (eVar 3) aNil))))) cNever cNx) (enumD 0 (ws.map wgD)) () env ⟨h0, h4⟩ fun z hz s env hj => by
      obtain ⟨j, x, rfl, r, hr, rfl⟩ := enum_each (P := fun x => ∃ r ∈ ws, x = wgD r) _ 0 (fun x hx => by obtain ⟨r, h1, h2⟩ := List.mem_map.mp hx; exact ⟨r, h1, h2.symm⟩) z hz
      refine ⟨_, _, rfl, st_iff (t := _) (ev_tNot (t := true) (ev_tB (ev_call (ev_cons (x := courtD y) (ev_var ?_) (ev_cons (x := wgD r) (ev_var ?_) ev_nil)) rfl (is_weighing_eq o (h r hr))))) rfl st_nx, ?_, ?_⟩
      · rw [List.getElem?_set_ne (by decide), List.getElem?_set_ne (by decide)]; exact hj.1
      · rw [List.getElem?_set_self (by rw [List.length_set]; omega)]
      · rw [List.getElem?_set_ne (by decide), List.getElem?_set_ne (by decide)]; exact hj.1
      · rw [List.length_set, List.length_set]; exact hj.2
    exact ⟨e', e1⟩
  obtain ⟨e', he⟩ := go [some (courtD y), some d, none, none] rfl rfl
  exact def_nx (st_seq (st_iff (t := _) (ev_tNot (t := true) (ev_tB (ev_un (ev_var rfl) hd.si))) rfl st_nx) (st_for (ev_iOns (ev_cons (ev_var rfl) ev_nil) hd.en) he))
end Cm
end
section
set_option Elab.async false
set_option linter.all false
set_option maxRecDepth 100000
set_option maxHeartbeats 400000
/-! worlds and what they tell -/
namespace Cm
open PySem PySem.Spec PyProof.Rows L2 Mir
section
variable {α σ : Type}
theorem lc_mapT {e0 : Ev} {tg : Ev → D → Option Ev} {n : Ev → M Bool} {me : Ev → M D} (φ ψ : α → D) : ∀ (xs : List α) (acc : List D), (∀ x ∈ xs, ∃ e, tg e0 (φ x) = some e ∧ n e = pure true ∧ me e = pure (ψ x)) → acc.length + xs.length ≤ sizeLine → lcGo e0 tg n me (xs.map φ) acc = pure (acc ++ xs.map ψ)
  | [], acc, _, _ => by rw [List.map_nil, List.map_nil, List.append_nil]; rfl
  | x :: xs, acc, h, hl => by
    obtain ⟨e, h1, h2, h3⟩ := h x (List.mem_cons_self ..)
    rw [List.length_cons] at hl
    rw [List.map_cons, List.map_cons]
    simp only [lcGo, h1, h2, h3, pure_bind', if_true]
    rw [guard_of (decide_eq_true (by omega)), lc_mapT φ ψ xs (acc ++ [ψ x]) (fun y hy => h y (List.mem_cons_of_mem _ hy)) (by rw [List.length_append, List.length_singleton]; omega)]
    rw [List.append_assoc]; rfl
theorem lc_filterT {e0 : Ev} {tg : Ev → D → Option Ev} {n : Ev → M Bool} {me : Ev → M D} (φ ψ : α → D) (p : α → Bool) : ∀ (xs : List α) (acc : List D), (∀ x ∈ xs, ∃ e, tg e0 (φ x) = some e ∧ n e = pure (p x) ∧ (p x = true → me e = pure (ψ x))) → acc.length + xs.length ≤ sizeLine → lcGo e0 tg n me (xs.map φ) acc = pure (acc ++ (xs.filter p).map ψ)
  | [], acc, _, _ => by rw [List.filter_nil, List.map_nil, List.map_nil, List.append_nil]; rfl
  | x :: xs, acc, h, hl => by
    obtain ⟨e, h1, h2, h3⟩ := h x (List.mem_cons_self ..)
    rw [List.length_cons] at hl
    rw [List.map_cons]
    simp only [lcGo, h1, h2, pure_bind']
    cases hp : p x with
    | true =>
      rw [if_pos rfl, h3 hp, pure_bind', guard_of (decide_eq_true (by omega)), lc_filterT φ ψ p xs (acc ++ [ψ x]) (fun y hy => h y (List.mem_cons_of_mem _ hy)) (by rw [List.length_append, List.length_singleton]; omega)]
      rw [List.append_assoc, List.filter_cons_of_pos hp, List.map_cons]; rfl
    | false =>
      rw [if_neg (by decide), lc_filterT φ ψ p xs acc (fun y hy => h y (List.mem_cons_of_mem _ hy)) (by omega), List.filter_cons_of_neg (by rw [hp]; decide)]
theorem dc_mapT {e0 : Ev} {tg : Ev → D → Option Ev} {n : Ev → M Bool} {mk mv : Ev → M D} (φ : α → D) (ψ : α → Key × D) : ∀ (xs : List α) (acc : List (Key × D)), (∀ x ∈ xs, ∃ e kd, tg e0 (φ x) = some e ∧ n e = pure true ∧ mk e = pure kd ∧ keyD kd = some (ψ x).1 ∧ mv e = pure (ψ x).2) → acc.length + xs.length ≤ sizeLine → dcGo e0 tg n mk mv (xs.map φ) acc = pure (mergeD acc (xs.map ψ))
  | [], acc, _, _ => rfl
  | x :: xs, acc, h, hl => by
    obtain ⟨e, kd, h1, h2, h3, h4, h5⟩ := h x (List.mem_cons_self ..)
    rw [List.length_cons] at hl
    have pl : (putD acc (ψ x).1 (ψ x).2).length ≤ acc.length + 1 := by
      unfold putD; split
      · rw [List.length_map]; omega
      · rw [List.length_append]; exact Nat.le_refl _
    rw [List.map_cons]
    simp only [dcGo, h1, h2, h3, h4, h5, pure_bind', if_true]
    rw [guard_of (decide_eq_true (by omega)), dc_mapT φ ψ xs _ (fun y hy => h y (List.mem_cons_of_mem _ hy)) (by omega)]
    rfl
theorem for_foldT {tg : Ev → D → Option Ev} {b : Ev → M Ctl} (φ : α → D) (J : Nat → σ → Ev → Prop) (st : σ → α → σ) : ∀ (xs : List α) (i : Nat) (s : σ) (env : Ev), J i s env → (∀ x ∈ xs, ∀ j s env, j < i + xs.length → J j s env → ∃ e e', tg env (φ x) = some e ∧ b e = pure (.nx e') ∧ J (j + 1) (st s x) e') → ∃ e', forGo tg b (xs.map φ) env = pure (.nx e') ∧ J (i + xs.length) (xs.foldl st s) e'
  | [], i, s, env, h, _ => ⟨env, rfl, h⟩
  | x :: xs, i, s, env, h, hb => by
    obtain ⟨e, e', h1, h2, h3⟩ := hb x (List.mem_cons_self ..) i s env (by rw [List.length_cons]; omega) h
    obtain ⟨e2, h4, h5⟩ := for_foldT φ J st xs (i + 1) (st s x) e' h3 fun y hy j s env hj => hb y (List.mem_cons_of_mem _ hy) j s env (by rw [List.length_cons]; omega)
    refine ⟨e2, ?_, by rw [List.length_cons, Nat.add_comm xs.length 1, ← Nat.add_assoc]; exact h5⟩
    rw [List.map_cons]
    simp only [forGo, h1, h2, pure_bind']
    exact h4
theorem bls_all : ∀ xs : List α, bls (xs.map fun _ => D.bl true) = some (xs.map fun _ => true)
  | [] => rfl
  | c :: cs => by
    rw [List.map_cons, List.map_cons]
    simp only [bls, bls_all cs, Option.map_some]
theorem all_true (xs : List α) : dAll (.lst (xs.map fun _ => D.bl true)) = pure (.bl true) := by
  show (match bls (xs.map fun _ => D.bl true) with
    | some bs => pure (D.bl (bs.all id))
    | none => bad : M D) = _
  rw [bls_all]
  show pure (D.bl ((xs.map fun _ => true).all id)) = _
  congr 2
  simp
theorem nums_ints : ∀ is : List Int, nums (is.map D.int) = some is
  | [] => rfl
  | i :: is => by
    rw [List.map_cons]
    simp only [nums, nums_ints is, Option.map_some]
theorem dSum_ints (is : List Int) : dSum (.lst (is.map D.int)) = pure (.int is.sum) := by
  show (match nums (is.map D.int) with
    | some bs => pure (D.int bs.sum)
    | none => bad : M D) = _
  rw [nums_ints]
end
theorem is_dict_of_eq {ks ns : List Str} {f : Str → Int} {lo hi : Int} (hp : ks.Perm ns) (hl : ns.length ≤ 1000) (h : ∀ k ∈ ns, lo ≤ f k ∧ f k ≤ hi) : m_is_dict_of [.dic (dOf ks f), .lst (namesD ns), .int lo, .int hi] = pure (.bl true) := by
  have hz : (1000 : Nat) ≤ sizeLine := by decide
  have hkl : ks.length = ns.length := hp.length_eq
  refine def_ret (st_seq (st_iff (t := _) (ev_tOr (t1 := false) (t2 := false) (ev_tNot (t := true) (ev_tB (ev_un (ev_var rfl) rfl))) fun _ => ?_) rfl st_nx) (st_ret ?_))
  · refine ev_tOr (t1 := false) (t2 := false) (ev_tB (ev_bin (x := .int ks.length) (y := .int ns.length) (ev_un (ev_var rfl) ?_) (ev_un (ev_var rfl) ?_) ?_)) fun _ => ev_tNot (t := true) (ev_tB (ev_un (ev_lc (ev_iOn (ev_var rfl) rfl) (lc_mapT D.str (fun _ => D.bl true) ns [] (fun x hx => ⟨_, rfl, rfl, ev_bin (ev_var rfl) (ev_var rfl) (dIn_dOf (hp.mem_iff.mpr hx))⟩) (by simp; omega))) (all_true ns)))
    · show pure (D.int (dOf ks f).length) = _
      rw [dOf_length]
    · show pure (D.int (namesD ns).length) = _
      rw [List.length_map]
    · rw [dNe_int, hkl, decide_eq_true rfl]; rfl
  · refine ev_un (ev_lc (ys := ks.map fun _ => D.bl true) (ev_iOn (xs := ks.map fun k => D.int (f k)) (ev_var rfl) ?_) (lc_mapT (fun k => D.int (f k)) (fun _ => D.bl true) ks [] (fun x hx => ⟨_, rfl, rfl, ev_call (ev_cons (ev_var rfl) (ev_cons (ev_var rfl) (ev_cons (ev_var rfl) ev_nil))) rfl ?_⟩) (by simp; omega))) (all_true ks)
    · show pure ((dOf ks f).map fun kv => kv.2) = _
      unfold dOf
      rw [List.map_map]; rfl
    · have hh := h x (hp.mem_iff.mp hx)
      rw [is_from_int, decide_eq_true hh.1, decide_eq_true hh.2]; rfl
structure Wd where
  ks : List Str
  f : Str → Int
  bk : List Str
  g : Str → Int
structure WdOk (y : Yd) (w : Wd) : Prop where
  kp : w.ks.Perm y.ns
  bp : w.bk.Perm y.bn
  f : ∀ k ∈ y.ns, 1 ≤ w.f k ∧ w.f k ≤ y.mo
  g : ∀ b ∈ y.bn, -y.le ≤ w.g b ∧ w.g b ≤ y.le
def wdD (w : Wd) : D := .tup [.dic (dOf w.ks w.f), .dic (dOf w.bk w.g)]
theorem is_pair_eq {y : Yd} (o : YdOk y) {w : Wd} (h : WdOk y w) : m_is_pair [courtD y, wdD w] = pure (.bl true) := by
  have hn := o.n8
  have hb := o.b3
  refine def_ret (st_seq (st_iff (t := _) (ev_tOr (t1 := false) (t2 := false) (ev_tNot (t := true) (ev_tB (ev_un (ev_var rfl) rfl))) fun _ => ev_tOr (t1 := false) (t2 := false) (ev_tB (ev_bin (x := .int 2) (ev_un (ev_var rfl) rfl) ev_c ?_)) fun _ => ev_tNot (t := true) (ev_tB ?_)) rfl st_nx) (st_ret ?_))
  · rw [dNe_int]; rfl
  · exact ev_call (ev_cons (ev_bin (ev_var rfl) ev_c rfl) (ev_cons (ev_things (ev_var rfl)) (ev_cons ev_c (ev_cons (ev_most (ev_var rfl)) ev_nil)))) rfl (is_dict_of_eq h.kp (by omega) h.f)
  · refine ev_call (ev_cons (ev_bin (ev_var rfl) ev_c rfl) (ev_cons (ev_lc (ev_iOn (ev_beams (ev_var rfl)) rfl) (lc_bn (show 3 < 4 by decide) (by omega))) (ev_cons (ev_bin ev_c (ev_lean (ev_var rfl)) (dSub_int _ _)) (ev_cons (ev_lean (ev_var rfl)) ev_nil)))) rfl ?_
    refine is_dict_of_eq h.bp (by rw [List.length_map]; omega) fun b hb => ?_
    have := h.g b hb
    omega
theorem need_world_eq {y : Yd} (o : YdOk y) {w : Wd} (h : WdOk y w) : m_need_world [courtD y, wdD w] = pure .non :=
  def_nx (st_iff (t := _) (ev_tNot (t := true) (ev_tB (ev_call (ev_cons (ev_var rfl) (ev_cons (ev_var rfl) ev_nil)) rfl (is_pair_eq o h)))) rfl st_nx)
def Wd.wt (w : Wd) : Option Str → Int
  | none => 0
  | some x => w.f x
theorem weight_eq {y : Yd} {w : Wd} (h : WdOk y w) {p : Option Str} (hp : PanOk y p) : m_weight [wdD w, panD p] = pure (.int (w.wt p)) := by
  cases p with
  | none => exact weight_none _
  | some x =>
    refine def_ret (st_ret ?_)
    have e := ev_if (n := tB' (eBin (dIsN false) (eVar 1) (eC .non))) (ma := eC (.int 0)) (mb := eBin dAt (eBin dAt (eVar 0) (eC (.int 0))) (eVar 1)) (env := [some (wdD w), some (.str x)]) (t := false) (x := .non) (y := .int (w.f x)) (ev_tB (ev_bin (ev_var rfl) ev_c rfl)) (fun e => nomatch e) fun _ => ev_bin (ev_bin (ev_var rfl) ev_c rfl) (ev_var rfl) (dAt_dOf (h.kp.mem_iff.mpr (hp x rfl)))
    exact e
def wordOf (t : Int) : Str := if t = 0 then "even" else if 0 < t then "left" else "right"
def tiW (u : Str) (s : Int) : Int := if u = "left" then -s else if u = "even" then 0 else s
theorem wordOf_mem (t : Int) : wordOf t ∈ words3 := by
  unfold wordOf words3
  split
  · simp
  · split <;> simp
theorem tired_eq {u : Str} (h : u ∈ words3) (s : Int) : m_tired [.str u, .int s] = pure (.int (tiW u s)) := by
  have n1 : ("even" : Str) ≠ "left" := by decide +kernel
  have n2 : ("right" : Str) ≠ "left" := by decide +kernel
  have n3 : ("right" : Str) ≠ "even" := by decide +kernel
  unfold words3 at h
  simp only [List.mem_cons, List.not_mem_nil, or_false] at h
  rcases h with h | h | h
  · subst h; rw [tired_left]; unfold tiW; rw [if_pos rfl]
  · subst h; rw [tired_even]; unfold tiW; rw [if_neg n1, if_pos rfl]
  · subst h; rw [tired_right]; unfold tiW; rw [if_neg n2, if_neg n3]
/-- the words that come -/
def tell (wt : Option Str → Int) (st : Str → Int) : List Wg → (Str → Int) → List Rw
  | [], _ => []
  | w :: ws, g => ⟨w, wordOf (wt w.l - wt w.r + g w.b)⟩ :: tell wt st ws (updF g w.b (g w.b + tiW (wordOf (wt w.l - wt w.r + g w.b)) (st w.b)))
def tellS (wt : Option Str → Int) (st : Str → Int) (s : (Str → Int) × List Rw) (w : Wg) : (Str → Int) × List Rw :=
  (updF s.1 w.b (s.1 w.b + tiW (wordOf (wt w.l - wt w.r + s.1 w.b)) (st w.b)), s.2 ++ [⟨w, wordOf (wt w.l - wt w.r + s.1 w.b)⟩])
theorem tell_fold (wt : Option Str → Int) (st : Str → Int) : ∀ (ws : List Wg) (s : (Str → Int) × List Rw), (ws.foldl (tellS wt st) s).2 = s.2 ++ tell wt st ws s.1
  | [], s => (List.append_nil _).symm
  | w :: ws, s => by
    rw [List.foldl_cons, tell_fold wt st ws]
    show (s.2 ++ [_]) ++ _ = _
    rw [List.append_assoc]; rfl
theorem told_words_eq {y : Yd} (o : YdOk y) {w : Wd} (h : WdOk y w) {ws : List Wg} (hw : ∀ v ∈ ws, WgOk y v) (hl : ws.length ≤ 1000) {d : D} (hd : SeqOf (ws.map wgD) d) : m_told_words [courtD y, wdD w, d] = pure (.lst ((tell w.wt (fnOf y.bs) ws w.g).map rwD)) := by
  have hz : (1000 : Nat) < sizeLine := by decide
  have hb3 := o.b3
  have hbl : w.bk.length < sizeLine := by
    have := h.bp.length_eq
    unfold Yd.bn at this
    rw [List.length_map] at this
    omega
  obtain ⟨e', h1, h2⟩ := for_foldT (tg := gT (gsCons (gN 6) (gsCons (gN 7) (gsCons (gN 8) gsNil)))) (b := cSeq (cSet 9 (eCall 1 m_word_of (aCons (eBin dAdd (eBin dSub (eCall 2 m_weight (aCons (eVar 1) (aCons (eVar 7) aNil))) (eCall 2 m_weight (aCons (eVar 1) (aCons (eVar 8) aNil)))) (eBin dAt (eVar 4) (eVar 6))) aNil))) (cSeq (cAugD 4 (eVar 6) (eCall 2 m_tired (aCons (eVar 9) (aCons (eBin dAt (eVar 3) (eVar 6)) aNil)))) (cApp 5 (eTup (aCons (eVar 6) (aCons (eVar 7) (aCons (eVar 8) (aCons (eVar 9) aNil))))))))
    wgD (fun i (s : (Str → Int) × List Rw) env => s.2.length = i ∧ ∃ a1 a2 a3 a4, env = [some (courtD y), some (wdD w), some d, some (.dic (dOf y.bn (fnOf y.bs))), some (.dic (dOf w.bk s.1)), some (.lst (s.2.map rwD)), a1, a2, a3, a4]) (tellS w.wt (fnOf y.bs)) ws 0 (w.g, []) [some (courtD y), some (wdD w), some d, some (.dic (dOf y.bn (fnOf y.bs))), some (.dic (dOf w.bk w.g)), some (.lst []), none, none, none, none] ⟨rfl, _, _, _, _, rfl⟩ fun v hv j s env hj hJ => by
      obtain ⟨hs, a1, a2, a3, a4, rfl⟩ := hJ
      have vo := hw v hv
      refine ⟨[some (courtD y), some (wdD w), some d, some (.dic (dOf y.bn (fnOf y.bs))), some (.dic (dOf w.bk s.1)), some (.lst (s.2.map rwD)), some (.str v.b), some (panD v.l), some (panD v.r), a4], [some (courtD y), some (wdD w), some d, some (.dic (dOf y.bn (fnOf y.bs))), some (.dic (dOf w.bk (tellS w.wt (fnOf y.bs) s v).1)), some (.lst ((tellS w.wt (fnOf y.bs) s v).2.map rwD)), some (.str v.b), some (panD v.l), some (panD v.r), some (.str (wordOf (w.wt v.l - w.wt v.r + s.1 v.b)))], rfl, ?_, ?_, _, _, _, _, rfl⟩
      · refine st_seq (st_set (ev_call (ev_cons (ev_bin (ev_bin (ev_call (ev_cons (ev_var rfl) (ev_cons (ev_var rfl) ev_nil)) rfl (weight_eq h vo.l)) (ev_call (ev_cons (ev_var rfl) (ev_cons (ev_var rfl) ev_nil)) rfl (weight_eq h vo.r)) (dSub_int _ _)) (ev_bin (ev_var rfl) (ev_var rfl) (dAt_dOf (h.bp.mem_iff.mpr vo.b))) (dAdd_int _ _)) ev_nil) rfl (word_of_eq _))) ?_
        refine st_seq (st_augD (ev_var rfl) rfl rfl (lookD_dOf (h.bp.mem_iff.mpr vo.b)) (ev_call (ev_cons (ev_var rfl) (ev_cons (ev_bin (ev_var rfl) (ev_var rfl) (dAt_dOf vo.b)) ev_nil)) rfl (tired_eq (wordOf_mem _) _)) (by rw [dOf_length]; exact hbl)) ?_
        rw [putD_dOf (h.bp.mem_iff.mpr vo.b)]
        rw [st_app (ev_tup (ev_cons (ev_var rfl) (ev_cons (ev_var rfl) (ev_cons (ev_var rfl) (ev_cons (ev_var rfl) ev_nil)))) rfl) rfl (by rw [List.length_map]; omega)]
        unfold tellS
        rw [List.map_append]
        rfl
      · show (s.2 ++ [_]).length = j + 1
        rw [List.length_append, hs]; rfl
  obtain ⟨_, a1, a2, a3, a4, rfl⟩ := h2
  refine def_ret (st_seq (st_par3 (ev_un (ev_beams (ev_var rfl)) (dict_beams o.bd)) (ev_un (ev_bin (ev_var rfl) ev_c rfl) rfl) (ev_lst ev_nil rfl)) (st_seq (st_for (ev_iOn (ev_var rfl) hd.it) h1) ?_))
  rw [st_ret (ev_var rfl), tell_fold]
  rfl
theorem told_by_eq {y : Yd} (o : YdOk y) {w : Wd} (h : WdOk y w) {ws : List Wg} (hw : ∀ v ∈ ws, WgOk y v) (hl : ws.length ≤ 1000) {d : D} (hd : SeqOf (ws.map wgD) d) : m_told_by [courtD y, wdD w, d] = pure (.lst ((tell w.wt (fnOf y.bs) ws w.g).map rwD)) :=
  def_ret (st_seq (st_drop (ev_call (ev_cons (ev_var rfl) (ev_cons (ev_var rfl) ev_nil)) rfl (need_world_eq o h))) (st_seq (st_drop (ev_call (ev_cons (ev_var rfl) (ev_cons (ev_var rfl) ev_nil)) rfl (need_weighings_eq o hw hd))) (st_ret (ev_call (ev_cons (ev_var rfl) (ev_cons (ev_var rfl) (ev_cons (ev_var rfl) ev_nil))) rfl (told_words_eq o h hw hl hd)))))
end Cm
end
section
set_option Elab.async false
set_option linter.all false
set_option maxRecDepth 100000
set_option maxHeartbeats 400000
/-! the law's own telling, shifts -/
namespace Cm
open PySem PySem.Spec PyProof.Rows L2 Mir
def sgn (t : Int) : Int := if 0 < t then 1 else if t < 0 then -1 else 0
theorem tiW_sgn (t s : Int) : tiW (wordOf t) s = -(s * sgn t) := by
  have n1 : ("even" : Str) ≠ "left" := by decide +kernel
  have n2 : ("right" : Str) ≠ "left" := by decide +kernel
  have n3 : ("right" : Str) ≠ "even" := by decide +kernel
  unfold wordOf sgn
  by_cases h : t = 0
  · subst h
    rw [if_pos rfl]
    unfold tiW
    rw [if_neg n1, if_pos rfl]
    simp
  · rw [if_neg h]
    by_cases h2 : 0 < t
    · rw [if_pos h2, if_pos h2]; unfold tiW; rw [if_pos rfl]; omega
    · rw [if_neg h2, if_neg h2, if_pos (by omega)]
      unfold tiW
      rw [if_neg n2, if_neg n3]
      omega
theorem word_sgn (t : Int) : dAt (.lst [.str "right", .str "even", .str "left"]) (.int (1 + sgn t)) = pure (.str (wordOf t)) := by
  unfold sgn wordOf
  by_cases h : t = 0
  · subst h; rfl
  · rw [if_neg h]
    by_cases h2 : 0 < t
    · rw [if_pos h2, if_pos h2]; rfl
    · rw [if_neg h2, if_neg h2, if_pos (by omega)]; rfl
theorem get_wt {y : Yd} {w : Wd} (h : WdOk y w) {p : Option Str} (hp : PanOk y p) : dGet2 (.dic (dOf w.ks w.f)) (panD p) (.int 0) = pure (.int (w.wt p)) := by
  cases p with
  | none => rfl
  | some x =>
    show pure ((lookD (dOf w.ks w.f) (.inr x)).getD (D.int 0)) = _
    rw [lookD_dOf (h.kp.mem_iff.mpr (hp x rfl))]
    rfl
theorem st_small {y : Yd} (o : YdOk y) {b : Str} (h : b ∈ y.bn) : -5 ≤ fnOf y.bs b ∧ fnOf y.bs b ≤ 5 := by
  obtain ⟨p, hp, rfl⟩ := List.mem_map.mp h
  rw [fnOf_mem o.bd hp]
  have := o.st p hp
  omega
theorem law_told_eq {y : Yd} (o : YdOk y) {w : Wd} (h : WdOk y w) {ws : List Wg} (hw : ∀ v ∈ ws, WgOk y v) (hl : ws.length ≤ 1000) {d : D} (hd : dIt d = pure (ws.map wgD)) : m__law_told [rowD y, wdD w, d] = pure (.lst ((tell w.wt (fnOf y.bs) ws w.g).map rwD)) := by
  have hz : (1000 : Nat) < sizeLine := by decide
  have hb3 := o.b3
  have hbl : w.bk.length < sizeLine := by
    have := h.bp.length_eq
    unfold Yd.bn at this
    rw [List.length_map] at this
    omega
  obtain ⟨e', h1, h2⟩ := for_foldT (tg := gT (gsCons (gN 6) (gsCons (gN 7) (gsCons (gN 8) gsNil)))) (b := cSeq (cSet 9 (eCall 1 m__law_sign (aCons (eBin dAdd (eBin dSub (eTri dGet2 (eBin dAt (eVar 1) (eC (.int 0))) (eVar 7) (eC (.int 0))) (eTri dGet2 (eBin dAt (eVar 1) (eC (.int 0))) (eVar 8) (eC (.int 0)))) (eBin dAt (eVar 3) (eVar 6))) aNil))) (cSeq (cSetD 3 (eVar 6) (eBin dSub (eBin dAt (eVar 3) (eVar 6)) (eBin dMul (eBin dAt (eVar 4) (eVar 6)) (eVar 9)))) (cApp 5 (eTup (aCons (eVar 6) (aCons (eVar 7) (aCons (eVar 8) (aCons (eBin dAt (eLst (aCons (eC (.str "right")) (aCons (eC (.str "even")) (aCons (eC (.str "left")) aNil)))) (eBin dAdd (eC (.int 1)) (eVar 9))) aNil))))))))
    wgD (fun i (s : (Str → Int) × List Rw) env => s.2.length = i ∧ ∃ a1 a2 a3 a4, env = [some (rowD y), some (wdD w), some d, some (.dic (dOf w.bk s.1)), some (.dic (dOf y.bn (fnOf y.bs))), some (.lst (s.2.map rwD)), a1, a2, a3, a4]) (tellS w.wt (fnOf y.bs)) ws 0 (w.g, []) [some (rowD y), some (wdD w), some d, some (.dic (dOf w.bk w.g)), some (.dic (dOf y.bn (fnOf y.bs))), some (.lst []), none, none, none, none] ⟨rfl, _, _, _, _, rfl⟩ fun v hv j s env hj hJ => by
      obtain ⟨hs, a1, a2, a3, a4, rfl⟩ := hJ
      have vo := hw v hv
      have sm := st_small o vo.b
      refine ⟨[some (rowD y), some (wdD w), some d, some (.dic (dOf w.bk s.1)), some (.dic (dOf y.bn (fnOf y.bs))), some (.lst (s.2.map rwD)), some (.str v.b), some (panD v.l), some (panD v.r), a4], [some (rowD y), some (wdD w), some d, some (.dic (dOf w.bk (tellS w.wt (fnOf y.bs) s v).1)), some (.dic (dOf y.bn (fnOf y.bs))), some (.lst ((tellS w.wt (fnOf y.bs) s v).2.map rwD)), some (.str v.b), some (panD v.l), some (panD v.r), some (.int (sgn (w.wt v.l - w.wt v.r + s.1 v.b)))], rfl, ?_, ?_, _, _, _, _, rfl⟩
      · refine st_seq (st_set (ev_call (ev_cons (ev_bin (ev_bin (ev_tri (ev_bin (ev_var rfl) ev_c rfl) (ev_var rfl) ev_c (get_wt h vo.l)) (ev_tri (ev_bin (ev_var rfl) ev_c rfl) (ev_var rfl) ev_c (get_wt h vo.r)) (dSub_int _ _)) (ev_bin (ev_var rfl) (ev_var rfl) (dAt_dOf (h.bp.mem_iff.mpr vo.b))) (dAdd_int _ _)) ev_nil) rfl (sign_eq _))) ?_
        refine st_seq (st_setD (ev_bin (ev_bin (ev_var rfl) (ev_var rfl) (dAt_dOf (h.bp.mem_iff.mpr vo.b))) (ev_bin (ev_bin (ev_var rfl) (ev_var rfl) (dAt_dOf vo.b)) (ev_var rfl) (dMul_int (by omega))) (dSub_int _ _)) (ev_var rfl) rfl rfl (by rw [dOf_length]; exact hbl)) ?_
        rw [putD_dOf (h.bp.mem_iff.mpr vo.b)]
        rw [st_app (ev_tup (ev_cons (ev_var rfl) (ev_cons (ev_var rfl) (ev_cons (ev_var rfl) (ev_cons (ev_bin (ev_lst (ev_cons ev_c (ev_cons ev_c (ev_cons ev_c ev_nil))) rfl) (ev_bin ev_c (ev_var rfl) (dAdd_int _ _)) (word_sgn (w.wt v.l - w.wt v.r + s.1 v.b))) ev_nil)))) rfl) rfl (by rw [List.length_map]; omega)]
        unfold tellS
        rw [List.map_append, tiW_sgn]
        rfl
      · show (s.2 ++ [_]).length = j + 1
        rw [List.length_append, hs]; rfl
  obtain ⟨_, a1, a2, a3, a4, rfl⟩ := h2
  refine def_ret (st_seq (st_par2 (ev_un (ev_bin (ev_var rfl) ev_c rfl) rfl) (ev_un (ev_bin (ev_var rfl) ev_c rfl) (dict_beams o.bd))) (st_seq (st_set (ev_lst ev_nil rfl)) (st_seq (st_for (ev_iOn (ev_var rfl) hd) h1) ?_)))
  rw [st_ret (ev_var rfl), tell_fold]
  rfl
/-! ### row[:3], and worlds of a log -/
theorem cut3 {rs : List Rw} {e0 : Ev} (h : 3 < e0.length) (hl : rs.length ≤ 1000) : lcGo e0 (gN 3) nYes (eSl (eVar 3) oNone (oSome (eC (.int 3)))) (rs.map rwD) [] = pure ((rs.map (·.w)).map wgD) := by
  have hz : (1000 : Nat) < sizeLine := by decide
  rw [lc_mapT rwD (fun r => wgD r.w) rs [] (fun x hx => ⟨_, rfl, rfl, ev_sl (x := rwD x) (ev_var (List.getElem?_set_self h)) ev_oNone (ev_oSome ev_c) rfl⟩) (by simp; omega), List.nil_append, List.map_map]
  rfl
theorem is_world_eq {y : Yd} (o : YdOk y) {w : Wd} (h : WdOk y w) {rs : List Rw} (hr : ∀ r ∈ rs, RwOk y r) (hl : rs.length ≤ 1000) {d : D} (hd : SeqOf (rs.map rwD) d) {b : Bool} (he : dEq (.lst ((tell w.wt (fnOf y.bs) (rs.map (·.w)) w.g).map rwD)) (.lst (rs.map rwD)) = pure (.bl b)) : m_is_world [courtD y, d, wdD w] = pure (.bl b) := by
  have hw : ∀ v ∈ rs.map (·.w), WgOk y v := fun v hv => by
    obtain ⟨r, h1, rfl⟩ := List.mem_map.mp hv
    exact (hr r h1).w
  exact def_ret (st_seq (st_drop (ev_call (ev_cons (ev_var rfl) (ev_cons (ev_var rfl) ev_nil)) rfl (need_log_eq o hr hd))) (st_ret (ev_and (t1 := true) (t2 := b) (ev_call (ev_cons (ev_var rfl) (ev_cons (ev_var rfl) ev_nil)) rfl (is_pair_eq o h)) fun _ => ev_bin (ev_call (ev_cons (ev_var rfl) (ev_cons (ev_var rfl) (ev_cons (ev_lc (ev_iOn (ev_var rfl) hd.it) (cut3 (show 3 < 4 by decide) hl)) ev_nil))) rfl (told_words_eq o h hw (by rw [List.length_map]; omega) .lst)) (ev_un (ev_var rfl) hd.ls) he)))
/-! ### shifts -/
def shO (st : Str → Int) (rs : List Rw) (b : Str) : Int := ((rs.filter fun r => decide (r.w.b = b)).map fun r => tiW r.u (st b)).sum
theorem it_dOf (ks : List Str) (f : Str → Int) : dIt (.dic (dOf ks f)) = pure (namesD ks) := by
  show pure ((dOf ks f).map fun kv => keyOf kv.1) = _
  unfold dOf
  rw [List.map_map]
  rfl
theorem shifts_eq {y : Yd} (o : YdOk y) {rs : List Rw} (hr : ∀ r ∈ rs, RwOk y r) (hl : rs.length ≤ 1000) {d : D} (hd : SeqOf (rs.map rwD) d) : m_shifts [courtD y, d] = pure (.dic (dOf y.bn (shO (fnOf y.bs) rs))) := by
  have hz : (1000 : Nat) < sizeLine := by decide
  have hb3 := o.b3
  have hbn : y.bn.length = y.bs.length := List.length_map ..
  refine def_ret (st_seq (st_drop (ev_call (ev_cons (ev_var rfl) (ev_cons (ev_var rfl) ev_nil)) rfl (need_log_eq o hr hd))) (st_seq (st_set (ev_un (ev_beams (ev_var rfl)) (dict_beams o.bd))) (st_ret (ev_dc (ev_iOn (ev_var rfl) (it_dOf _ _)) ?_))))
  rw [dc_mapT D.str (fun b => (.inr b, .int (shO (fnOf y.bs) rs b))) (y.bs.map (·.1)) [] (fun b hb => ⟨_, .str b, rfl, rfl, ev_var rfl, rfl, ev_un (ev_lc (ev_iOn (ev_var rfl) hd.it) (lc_filterT rwD (fun r => D.int (tiW r.u (fnOf y.bs b))) (fun r => decide (r.w.b = b)) rs [] (fun r h => ⟨_, rfl, ev_tB (ev_bin (ev_bin (x := rwD r) (ev_var rfl) ev_c rfl) (ev_var rfl) (dEq_str _ _)), fun _ => ev_call (ev_cons (ev_bin (x := rwD r) (ev_var rfl) ev_c rfl) (ev_cons (ev_bin (ev_var rfl) (ev_var rfl) (dAt_dOf hb)) ev_nil)) rfl (tired_eq (hr r h).u _)⟩) (by simp; omega))) ?_⟩) (by simp; omega)]
  · show pure (mergeD [] (dOf y.bn (shO (fnOf y.bs) rs))) = _
    rw [mergeD_dOf (show y.bn.Nodup from o.bd)]
  · rw [List.nil_append]
    have e := dSum_ints ((rs.filter fun r => decide (r.w.b = b)).map fun r => tiW r.u (fnOf y.bs b))
    rw [List.map_map] at e
    exact e
theorem count_strs (z : Str) : ∀ us : List Str, ((us.map D.str).countP fun x => eqV (valD x) (valD (.str z))) = us.count z
  | [] => rfl
  | u :: us => by
    rw [List.map_cons, List.countP_cons, count_strs z us, List.count_cons]
    rfl
theorem dCount_strs (z : Str) (us : List Str) : dCount (.lst (us.map D.str)) (.str z) = pure (.int (us.count z)) := by
  show guardB (flatD (.str z) && (us.map D.str).all flatD) (pure (D.int (((us.map D.str).countP fun x => eqV (valD x) (valD (.str z)) : Nat) : Int))) = _
  rw [flat_strs, count_strs]
  rfl
theorem sh_count (s : Int) : ∀ us : List Str, (∀ u ∈ us, u ∈ words3) → (us.map fun u => tiW u s).sum = s * (((us.count ("right" : Str) : Nat) : Int) - ((us.count ("left" : Str) : Nat) : Int))
  | [], _ => by simp
  | u :: us, h => by
    have n1 : ("even" : Str) ≠ "left" := by decide +kernel
    have n2 : ("right" : Str) ≠ "left" := by decide +kernel
    have n3 : ("right" : Str) ≠ "even" := by decide +kernel
    have n4 : ("even" : Str) ≠ "right" := by decide +kernel
    have hu := h u (List.mem_cons_self ..)
    rw [List.map_cons, List.sum_cons, sh_count s us fun v hv => h v (List.mem_cons_of_mem _ hv), List.count_cons, List.count_cons]
    unfold words3 at hu
    simp only [List.mem_cons, List.not_mem_nil, or_false] at hu
    generalize List.count ("right" : Str) us = cr
    generalize List.count ("left" : Str) us = cl
    rcases hu with e | e | e
    · subst e
      unfold tiW
      rw [if_pos rfl, if_neg (by simpa using n2.symm), if_pos (by simp), Int.natCast_add, Int.natCast_add, Int.mul_sub, Int.mul_sub, Int.mul_add, Int.mul_add]
      simp
      omega
    · subst e
      unfold tiW
      rw [if_neg n1, if_pos rfl, if_neg (by simpa using n4), if_neg (by simpa using n1), Int.zero_add]
      rfl
    · subst e
      unfold tiW
      rw [if_neg n2, if_neg n3, if_pos (by simp), if_neg (by simpa using n2), Int.natCast_add, Int.natCast_add, Int.mul_sub, Int.mul_sub, Int.mul_add, Int.mul_add]
      simp
      omega
end Cm
end
section
set_option Elab.async false
set_option linter.all false
set_option maxRecDepth 100000
set_option maxHeartbeats 400000
/-! data that is shown and compared -/
namespace Cm
open PySem PySem.Spec PyProof.Rows L2 Mir
/-- no dict in it, of bounded weight and depth -/
def Plain (d : D) (w e : Nat) : Prop := ∃ p, toPy d = some p ∧ shP d = some p ∧ p.canLay0 = true ∧ p.showable = true ∧ p.leavesShort 13 = true ∧ p.weight ≤ w ∧ p.depth ≤ e
def Plains (xs : List D) (w e : Nat) : Prop := ∃ ps, toPys xs = some ps ∧ shPs xs = some ps ∧ PyData.canLayAll0 ps = true ∧ PyData.showableAll ps = true ∧ PyData.leavesShortAll 13 ps = true ∧ PyData.weightAll ps ≤ xs.length * (w + 1) ∧ PyData.depthAll ps ≤ e
theorem Plains.of {w e : Nat} : ∀ {xs : List D}, (∀ x ∈ xs, Plain x w e) → Plains xs w e
  | [], _ => ⟨[], rfl, rfl, by simp [PyData.canLayAll0], by simp [PyData.showableAll], by simp [PyData.leavesShortAll], by simp [PyData.weightAll], by simp [PyData.depthAll]⟩
  | x :: xs, h => by
    obtain ⟨p, a1, a2, a3, a4, a5, a6, a7⟩ := h x (List.mem_cons_self ..)
    obtain ⟨ps, b1, b2, b3, b4, b5, b6, b7⟩ := Plains.of fun y hy => h y (List.mem_cons_of_mem _ hy)
    refine ⟨p :: ps, by simp only [toPys, a1, b1], by simp only [shPs, a2, b2], by simp only [PyData.canLayAll0, a3, b3]; rfl, by simp only [PyData.showableAll, a4, b4]; rfl, by simp only [PyData.leavesShortAll, a5, b5]; rfl, ?_, ?_⟩
    · simp only [PyData.weightAll]
      rw [List.length_cons, Nat.add_mul, Nat.one_mul]
      omega
    · simp only [PyData.depthAll]
      omega
theorem Plain.tup {xs : List D} {w e : Nat} (h : ∀ x ∈ xs, Plain x w e) : Plain (.tup xs) (xs.length * (w + 1)) (e + 1) := by
  obtain ⟨ps, b1, b2, b3, b4, b5, b6, b7⟩ := Plains.of h
  exact ⟨.tuple ps, by simp only [toPy, b1, Option.map_some], by simp only [shP, b2, Option.map_some], by simpa only [PyData.canLay0] using b3, by simpa only [PyData.showable] using b4, by simpa only [PyData.leavesShort] using b5, by simpa only [PyData.weight] using b6, by simp only [PyData.depth]; omega⟩
theorem Plain.lst {xs : List D} {w e : Nat} (h : ∀ x ∈ xs, Plain x w e) : Plain (.lst xs) (xs.length * (w + 1)) (e + 1) := by
  obtain ⟨ps, b1, b2, b3, b4, b5, b6, b7⟩ := Plains.of h
  exact ⟨.list ps, by simp only [toPy, b1, Option.map_some], by simp only [shP, b2, Option.map_some], by simpa only [PyData.canLay0] using b3, by simpa only [PyData.showable] using b4, by simpa only [PyData.leavesShort] using b5, by simpa only [PyData.weight] using b6, by simp only [PyData.depth]; omega⟩
theorem Plain.mono {d : D} {w w' e e' : Nat} (h : Plain d w e) (hw : w ≤ w') (he : e ≤ e') : Plain d w' e' := by
  obtain ⟨p, a1, a2, a3, a4, a5, a6, a7⟩ := h
  exact ⟨p, a1, a2, a3, a4, a5, by omega, by omega⟩
theorem Plain.non : Plain .non 64 0 := ⟨.none, rfl, rfl, by simp [PyData.canLay0], by simp [PyData.showable], by simp [PyData.leavesShort], by simp [PyData.weight], by simp [PyData.depth]⟩
theorem Plain.bl (b : Bool) : Plain (.bl b) 64 0 := ⟨.bool b, rfl, rfl, by simp [PyData.canLay0], by simp [PyData.showable], by simp [PyData.leavesShort], by simp [PyData.weight], by simp [PyData.depth]⟩
theorem log_lt {n k : Nat} (h : n < 2 ^ k) (hk : 0 < k) : n.log2 < k := by
  by_cases z : n = 0
  · subst z; simpa using hk
  · exact (Nat.log2_lt z).mpr h
theorem Plain.int {i : Int} (h : i.natAbs < 10 ^ 12) : Plain (.int i) 64 0 := by
  have l : i.natAbs.log2 < 60 := log_lt (by omega) (by decide)
  refine ⟨.int i, rfl, rfl, by simp [PyData.canLay0], ?_, ?_, ?_, by simp [PyData.depth]⟩
  · simp only [PyData.showable]
    exact decide_eq_true (by omega)
  · simp only [PyData.leavesShort]
    exact decide_eq_true (PyData.shown_int_le h)
  · simp only [PyData.weight]
    split <;> omega
theorem ok_lt {x : Str} (h : PyData.strOk x = true) : (x.cps.toList.all fun c => decide (c < 16 ^ 8)) = true := by
  unfold PyData.strOk at h
  rw [Array.all_eq_true'] at h
  refine List.all_eq_true.mpr fun c hc => decide_eq_true ?_
  have := of_decide_eq_true (h c (Array.mem_toList_iff.mp hc))
  omega
theorem Plain.str {x : Str} (h : PyData.strOk x = true) (hl : x.cps.size ≤ 64) : Plain (.str x) 64 0 :=
  ⟨.str x, rfl, rfl, by simpa only [PyData.canLay0] using h, by simp [PyData.showable], by simpa only [PyData.leavesShort] using ok_lt h, by simpa only [PyData.weight] using hl, by simp [PyData.depth]⟩
theorem NameOk.plain {x : Str} (h : NameOk x) : Plain (.str x) 64 0 := Plain.str h.ok (by have := h.2.1; omega)
theorem shaped_of {p : PyData} (h : p.canLay0 = true) (hd : p.depth ≤ 64) : SeqAt.shaped p = true := by
  unfold SeqAt.shaped
  rw [h, decide_eq_true hd]; rfl
theorem dEqB_P {neg : Bool} {x y : D} (hx : isRefD x = true) : dEqB neg x y = dEqP neg x y := by
  cases x <;> first | exact (Bool.false_ne_true hx).elim | rfl
theorem dEqP_val {neg : Bool} {x y : D} {p q : PyData} (e1 : toPy x = some p) (e2 : toPy y = some q) (s1 : SeqAt.shaped p = true) (s2 : SeqAt.shaped q = true) : dEqP neg x y = pure (.bl (if neg = true then !PyData.eqv p q else PyData.eqv p q)) := by
  simp only [dEqP, e1, e2, s1, s2]
  rfl
theorem dEq_plain {x y : D} {w w' e e' : Nat} (hr : isRefD x = true) (hx : Plain x w e) (hy : Plain y w' e') (h1 : e ≤ 64) (h2 : e' ≤ 64) : ∃ b, dEq x y = pure (.bl b) := by
  obtain ⟨p, a1, a2, a3, a4, a5, a6, a7⟩ := hx
  obtain ⟨q, b1, b2, b3, b4, b5, b6, b7⟩ := hy
  exact ⟨_, (dEqB_P hr).trans (dEqP_val a1 b1 (shaped_of a3 (by omega)) (shaped_of b3 (by omega)))⟩
theorem dEq_self {x : D} {w e : Nat} (hr : isRefD x = true) (hx : Plain x w e) (h1 : e ≤ 64) : dEq x x = pure (.bl true) := by
  obtain ⟨p, a1, a2, a3, a4, a5, a6, a7⟩ := hx
  rw [dEq, dEqB_P hr, dEqP_val a1 a1 (shaped_of a3 (by omega)) (shaped_of a3 (by omega)), SeqAt.eqv_refl p a3]
  rfl
/-- what is shown, dicts too -/
def Shows (d : D) (w e : Nat) : Prop := ∃ p, shP d = some p ∧ p.showable = true ∧ p.leavesShort 13 = true ∧ p.weight ≤ w ∧ p.depth ≤ e
theorem Plain.shows {d : D} {w e : Nat} (h : Plain d w e) : Shows d w e := by
  obtain ⟨p, a1, a2, a3, a4, a5, a6, a7⟩ := h
  exact ⟨p, a2, a4, a5, a6, a7⟩
theorem Shows.mono {d : D} {w w' e e' : Nat} (h : Shows d w e) (hw : w ≤ w') (he : e ≤ e') : Shows d w' e' := by
  obtain ⟨p, a1, a2, a3, a4, a5⟩ := h
  exact ⟨p, a1, a2, a3, by omega, by omega⟩
theorem Plain.good {d : D} {w e : Nat} (h : Plain d w e) : good1 d = true := by
  obtain ⟨p, a1, a2, a3, a4, a5, a6, a7⟩ := h
  unfold good1
  rw [a2]
  show (!p.hasDict || noL d) = true
  rw [PyData.hasDict_of_canLay p a3]
  rfl
theorem Shows.good {d : D} {w e : Nat} (h : Shows d w e) (n : noL d = true) : good1 d = true := by
  obtain ⟨p, a1, a2, a3, a4, a5⟩ := h
  unfold good1
  rw [a1]
  show (!p.hasDict || noL d) = true
  rw [n, Bool.or_true]
theorem Shows.repr {d : D} {w e : Nat} (h : Shows d w e) (hr : isRefD d = true) (hg : goodR d = true) (hw : w ≤ 2 ^ 20) (he : e ≤ 60) : ∃ z, dRepr d = pure (.str z) := by
  obtain ⟨p, a1, a2, a3, a4, a5⟩ := h
  refine ⟨p.shown, ?_⟩
  unfold dRepr
  rw [a1]
  show guardB _ _ = _
  rw [guard_of]
  rw [hr, hg, a2, decide_eq_true (PyData.shown_fits (B := 13) (by decide) (by decide) a3 (by omega)), decide_eq_true (show p.depth ≤ 60 by omega)]
  rfl
theorem shPk_dOf {f : Str → Int} : ∀ {ks : List Str}, (∀ k ∈ ks, PyData.strOk k = true ∧ k.cps.size ≤ 64 ∧ (f k).natAbs < 10 ^ 12) → ∃ ps, shPk (dOf ks f) = some ps ∧ PyData.showableKv ps = true ∧ PyData.leavesShortKv 13 ps = true ∧ PyData.weightKv ps ≤ ks.length * 130 ∧ PyData.depthKv ps ≤ 0
  | [], _ => ⟨[], rfl, by simp [PyData.showableKv], by simp [PyData.leavesShortKv], by simp [PyData.weightKv], by simp [PyData.depthKv]⟩
  | k :: ks, h => by
    obtain ⟨ps, b1, b2, b3, b4, b5⟩ := shPk_dOf fun x hx => h x (List.mem_cons_of_mem _ hx)
    obtain ⟨k1, k2, k3⟩ := h k (List.mem_cons_self ..)
    obtain ⟨p, c1, c2, c3, c4, c5, c6, c7⟩ := Plain.str k1 k2
    obtain ⟨q, d1, d2, d3, d4, d5, d6, d7⟩ := Plain.int k3
    cases c1; cases d1
    have e : shPk (dOf (k :: ks) f) = some ((PyData.str k, PyData.int (f k)) :: ps) := by
      show shPk ((Sum.inr k, D.int (f k)) :: dOf ks f) = _
      simp only [shPk, b1, shP, keyPy]
    refine ⟨_, e, by simp only [PyData.showableKv, c4, d4, b2]; rfl, by simp only [PyData.leavesShortKv, c5, d5, b3]; rfl, ?_, ?_⟩
    · simp only [PyData.weightKv]
      rw [List.length_cons, Nat.add_mul, Nat.one_mul]
      omega
    · simp only [PyData.depthKv]
      omega
theorem Shows.dOf {ks : List Str} {f : Str → Int} (h : ∀ k ∈ ks, PyData.strOk k = true ∧ k.cps.size ≤ 64 ∧ (f k).natAbs < 10 ^ 12) : Shows (.dic (dOf ks f)) (ks.length * 130) 1 := by
  obtain ⟨ps, b1, b2, b3, b4, b5⟩ := shPk_dOf h
  refine ⟨.dict ps, by simp only [shP, b1, Option.map_some], by simpa only [PyData.showable] using b2, by simpa only [PyData.leavesShort] using b3, by simpa only [PyData.weight] using b4, ?_⟩
  simp only [PyData.depth]
  omega
theorem noLk_dOf (f : Str → Int) : ∀ ks : List Str, noLk (dOf ks f) = true
  | [] => rfl
  | k :: ks => by
    show noLk ((Sum.inr k, D.int (f k)) :: dOf ks f) = true
    simp only [noLk, noL, noLk_dOf f ks]
    rfl
theorem noL_dOf (ks : List Str) (f : Str → Int) : noL (.dic (dOf ks f)) = true := by
  simp only [noL]
  exact noLk_dOf f ks
theorem Shows.tup2 {a b : D} {w w' e e' : Nat} (ha : Shows a w e) (hb : Shows b w' e') : Shows (.tup [a, b]) (w + w' + 2) (max e e' + 1) := by
  obtain ⟨p, a1, a2, a3, a4, a5⟩ := ha
  obtain ⟨q, b1, b2, b3, b4, b5⟩ := hb
  refine ⟨.tuple [p, q], by simp only [shP, shPs, a1, b1, Option.map_some], by simp only [PyData.showable, PyData.showableAll, a2, b2]; rfl, by simp only [PyData.leavesShort, PyData.leavesShortAll, a3, b3]; rfl, ?_, ?_⟩
  · simp only [PyData.weight, PyData.weightAll]; omega
  · simp only [PyData.depth, PyData.depthAll]; omega
/-! ### the laws' data -/
theorem word_plain {u : Str} (h : u ∈ words3) : Plain (.str u) 64 0 := by
  have g : ∀ u ∈ words3, PyData.strOk u = true ∧ u.cps.size ≤ 64 := by decide +kernel
  exact Plain.str (g u h).1 (g u h).2
theorem pan_plain {y : Yd} (o : YdOk y) {p : Option Str} (h : PanOk y p) : Plain (panD p) 64 0 := by
  cases p with
  | none => exact Plain.non
  | some x => exact (o.nk x (h x rfl)).plain
theorem bn_name {y : Yd} (o : YdOk y) {b : Str} (h : b ∈ y.bn) : NameOk b := by
  obtain ⟨p, hp, rfl⟩ := List.mem_map.mp h
  exact o.bk p hp
theorem wg_plain {y : Yd} (o : YdOk y) {w : Wg} (h : WgOk y w) : Plain (wgD w) 195 1 :=
  Plain.tup (w := 64) (e := 0) (xs := [.str w.b, panD w.l, panD w.r]) fun x hx => by
    simp only [List.mem_cons, List.not_mem_nil, or_false] at hx
    rcases hx with e | e | e <;> subst e
    · exact (bn_name o h.b).plain
    · exact pan_plain o h.l
    · exact pan_plain o h.r
theorem rw_plain {y : Yd} (o : YdOk y) {r : Rw} (h : RwOk y r) : Plain (rwD r) 260 1 :=
  Plain.tup (w := 64) (e := 0) (xs := [.str r.w.b, panD r.w.l, panD r.w.r, .str r.u]) fun x hx => by
    simp only [List.mem_cons, List.not_mem_nil, or_false] at hx
    rcases hx with e | e | e | e <;> subst e
    · exact (bn_name o h.w.b).plain
    · exact pan_plain o h.w.l
    · exact pan_plain o h.w.r
    · exact word_plain h.u
theorem rws_plain {y : Yd} (o : YdOk y) {rs : List Rw} (h : ∀ r ∈ rs, RwOk y r) (hl : rs.length ≤ 1000) : Plain (.lst (rs.map rwD)) 261000 2 :=
  (Plain.lst (w := 260) (e := 1) fun x hx => by
    obtain ⟨r, h1, rfl⟩ := List.mem_map.mp hx
    exact rw_plain o (h r h1)).mono (by rw [List.length_map]; omega) (by omega)
theorem rws_repr {y : Yd} (o : YdOk y) {rs : List Rw} (h : ∀ r ∈ rs, RwOk y r) (hl : rs.length ≤ 1000) : ∃ z, dRepr (.lst (rs.map rwD)) = pure (.str z) := by
  have p := rws_plain o h hl
  exact p.shows.repr rfl (by unfold goodR; rw [p.good]; rfl) (by decide) (by decide)
theorem dic_repr {ks : List Str} {f : Str → Int} (h : ∀ k ∈ ks, NameOk k ∧ (f k).natAbs < 10 ^ 12) (hl : ks.length ≤ 100) : ∃ z, dRepr (.dic (dOf ks f)) = pure (.str z) := by
  have p := Shows.dOf (ks := ks) (f := f) fun k hk => ⟨(h k hk).1.ok, by have := (h k hk).1.2.1; omega, (h k hk).2⟩
  exact p.repr rfl (by unfold goodR; rw [p.good (noL_dOf _ _)]; rfl) (by omega) (by decide)
theorem wd_shows {y : Yd} (o : YdOk y) {w : Wd} (h : WdOk y w) : Shows (wdD w) 2602 2 := by
  have n8 := o.n8
  have b3 := o.b3
  have m2 := o.m2
  have l2 := o.l2
  have k1 := h.kp.length_eq
  have k2 : w.bk.length = y.bs.length := by rw [h.bp.length_eq]; exact List.length_map ..
  have s1 := Shows.dOf (ks := w.ks) (f := w.f) fun k hk => by
    have hm := h.kp.mem_iff.mp hk
    have := h.f k hm
    exact ⟨(o.nk k hm).ok, by have := (o.nk k hm).2.1; omega, by omega⟩
  have s2 := Shows.dOf (ks := w.bk) (f := w.g) fun k hk => by
    have hm := h.bp.mem_iff.mp hk
    have := h.g k hm
    exact ⟨(bn_name o hm).ok, by have := (bn_name o hm).2.1; omega, by omega⟩
  exact (s1.tup2 s2).mono (by omega) (by omega)
theorem noL_wd (w : Wd) : noL (wdD w) = true := by
  unfold wdD
  simp only [noL, noLs, noLk_dOf]
  rfl
theorem both_repr {y : Yd} (o : YdOk y) {w : Wd} (h : WdOk y w) {ws : List Wg} (hw : ∀ v ∈ ws, WgOk y v) (hl : ws.length ≤ 1000) : ∃ z, dRepr (.tup [wdD w, .lst (ws.map wgD)]) = pure (.str z) := by
  have p1 := wd_shows o h
  have p2 : Plain (.lst (ws.map wgD)) 196000 2 := (Plain.lst (w := 195) (e := 1) fun x hx => by
    obtain ⟨r, h1, rfl⟩ := List.mem_map.mp hx
    exact wg_plain o (hw r h1)).mono (by rw [List.length_map]; omega) (by omega)
  refine (p1.tup2 p2.shows).repr rfl ?_ (by decide) (by decide)
  unfold goodR
  rw [Bool.or_eq_true]
  refine .inr ?_
  show ([wdD w, D.lst (ws.map wgD)].all good1) = true
  rw [List.all_cons, List.all_cons, p1.good (noL_wd w), p2.good]
  rfl
theorem tell_ok {y : Yd} {wt : Option Str → Int} {st : Str → Int} : ∀ {ws : List Wg} {g : Str → Int}, (∀ v ∈ ws, WgOk y v) → ∀ r ∈ tell wt st ws g, RwOk y r
  | [], _, _, r, hr => nomatch hr
  | w :: ws, g, h, r, hr => by
    rcases List.mem_cons.mp hr with e | e
    · subst e; exact ⟨h w (List.mem_cons_self ..), wordOf_mem _⟩
    · exact tell_ok (fun v hv => h v (List.mem_cons_of_mem _ hv)) r e
theorem tell_length {wt : Option Str → Int} {st : Str → Int} : ∀ (ws : List Wg) (g : Str → Int), (tell wt st ws g).length = ws.length
  | [], _ => rfl
  | w :: ws, g => by
    show (tell wt st ws _).length + 1 = _
    rw [tell_length ws, List.length_cons]
theorem tell_w {wt : Option Str → Int} {st : Str → Int} : ∀ (ws : List Wg) (g : Str → Int), (tell wt st ws g).map (·.w) = ws
  | [], _ => rfl
  | w :: ws, g => by
    show w :: (tell wt st ws _).map (·.w) = _
    rw [tell_w ws]
theorem tell_take {wt : Option Str → Int} {st : Str → Int} : ∀ (n : Nat) (ws : List Wg) (g : Str → Int), (tell wt st ws g).take n = tell wt st (ws.take n) g
  | 0, _, _ => rfl
  | n + 1, [], _ => rfl
  | n + 1, w :: ws, g => by
    show _ :: (tell wt st ws _).take n = _ :: tell wt st (ws.take n) _
    rw [tell_take n ws]
end Cm
end
section
set_option Elab.async false
set_option linter.all false
set_option maxRecDepth 100000
set_option maxHeartbeats 400000
/-! a yard is made; parts of a log -/
namespace Cm
open PySem PySem.Spec PyProof.Rows L2 Mir
def dOf' (ns : List Str) : List (Key × D) := ns.map fun k => (Sum.inr k, D.bl true)
theorem are_names_eq {ns : List Str} {mo : Int} (h1 : 1 ≤ ns.length) (hm : (ns.length : Int) ≤ mo) (hl : ns.length ≤ 1000) (hk : ∀ x ∈ ns, NameOk x) (nd : ns.Nodup) : m_are_names [.lst (namesD ns), .int mo] = pure (.bl true) := by
  have hz : (1000 : Nat) ≤ sizeLine := by decide
  have ln : (namesD ns).length = ns.length := List.length_map ..
  refine def_ret (st_seq (st_iff (t := _) (ev_tOr (t1 := false) (t2 := false) (ev_tNot (t := true) (ev_tB (ev_un (ev_var rfl) rfl))) fun _ => ev_tNot (t := true) (ev_tB ?_)) rfl st_nx) (st_ret (ev_and (t1 := true) (t2 := true) (ev_un (ev_lc (ev_iOn (ev_var rfl) rfl) (lc_mapT D.str (fun _ => D.bl true) ns [] (fun x hx => ⟨_, rfl, rfl, ev_call (ev_cons (ev_var rfl) ev_nil) rfl (is_name_ok (hk x hx))⟩) (by simp; omega))) (all_true ns)) fun _ => ev_bin (x := .int ns.length) (y := .int ns.length) (ev_un (x := .dic (dOf' ns)) (ev_dc (ev_iOn (ev_var rfl) rfl) ?_) ?_) (ev_un (ev_var rfl) ?_) ?_)))
  · refine ev_chain (t1 := true) (t2 := true) (z := .int mo) ev_c (y := .int ns.length) (ev_un (ev_var rfl) ?_) ?_ (fun _ => ev_var rfl) fun _ => ?_
    · show pure (D.int (namesD ns).length) = _
      rw [ln]
    · rw [dLe_int, decide_eq_true (by omega)]
    · rw [dLe_int, decide_eq_true hm]
  · rw [dc_mapT D.str (fun k => (Sum.inr k, D.bl true)) ns [] (fun x hx => ⟨_, _, rfl, rfl, ev_var rfl, rfl, ev_c⟩) (by simp; omega)]
    rw [mergeD_new _ _ (by
      show ((ns.map fun k => (Sum.inr k, D.bl true)).map (·.1)).Nodup
      rw [List.map_map]
      exact List.Pairwise.map _ (fun a b e z => e (by injection z)) nd), List.nil_append]
    rfl
  · show pure (D.int (dOf' ns).length) = _
    rw [show (dOf' ns).length = ns.length from List.length_map ..]
  · show pure (D.int (namesD ns).length) = _
    rw [ln]
  · rw [dEq_int, decide_eq_true rfl]
theorem is_beam_eq {p : Str × Int} (h : NameOk p.1) (hs : -5 ≤ p.2 ∧ p.2 ≤ 5 ∧ p.2 ≠ 0) : m_is_beam [beamD p] = pure (.bl true) := by
  refine def_ret (st_seq (st_iff (t := _) (ev_tOr (t1 := false) (t2 := false) (ev_tNot (t := true) (ev_tB (ev_un (ev_var rfl) rfl))) fun _ => ev_tOr (t1 := false) (t2 := false) (ev_tB (ev_bin (x := .int 2) (ev_un (ev_var rfl) rfl) ev_c ?_)) fun _ => ev_tNot (t := true) (ev_tB (ev_call (ev_cons (ev_bin (ev_var rfl) ev_c rfl) ev_nil) rfl (is_name_ok h)))) rfl st_nx) (st_ret (ev_and (t1 := true) (t2 := true) (ev_call (ev_cons (ev_bin (ev_var rfl) ev_c rfl) (ev_cons (ev_neg ev_c) (ev_cons ev_c ev_nil))) rfl ?_) fun _ => ev_bin (ev_bin (ev_var rfl) ev_c rfl) ev_c ?_)))
  · rw [dNe_int]; rfl
  · rw [is_from_int, decide_eq_true hs.1, decide_eq_true hs.2.1]; rfl
  · rw [dNe_int, decide_eq_false hs.2.2]; rfl
theorem are_beams_eq {l : List (Str × Int)} (h1 : 1 ≤ l.length) (h3 : l.length ≤ 3) (hk : ∀ p ∈ l, NameOk p.1) (hs : ∀ p ∈ l, -5 ≤ p.2 ∧ p.2 ≤ 5 ∧ p.2 ≠ 0) (nd : (l.map (·.1)).Nodup) : m_are_beams [.lst (beamsD l)] = pure (.bl true) := by
  have hz : (1000 : Nat) ≤ sizeLine := by decide
  have lm : (l.map (·.1)).length = l.length := List.length_map ..
  refine def_ret (st_seq (st_iff (t := _) (ev_tOr (t1 := false) (t2 := false) (ev_tNot (t := true) (ev_tB (ev_un (ev_var rfl) rfl))) fun _ => ev_tNot (t := true) (ev_tB (ev_un (ev_lc (ev_iOn (ev_var rfl) rfl) (lc_mapT beamD (fun _ => D.bl true) l [] (fun p hp => ⟨_, rfl, rfl, ev_call (ev_cons (ev_var rfl) ev_nil) rfl (is_beam_eq (hk p hp) (hs p hp))⟩) (by simp; omega))) (all_true l)))) rfl st_nx) (st_ret (ev_call (ev_cons (ev_lc (ys := namesD (l.map (·.1))) (ev_iOn (ev_var rfl) rfl) ?_) (ev_cons ev_c ev_nil)) rfl (are_names_eq (by omega) (by omega) (by omega) (fun x hx => ?_) nd))))
  · rw [lc_mapT beamD (fun p => D.str p.1) l [] (fun p hp => ⟨_, rfl, rfl, ev_bin (x := beamD p) (ev_var rfl) ev_c rfl⟩) (by simp; omega), List.nil_append]
    unfold namesD
    rw [List.map_map]
    rfl
  · obtain ⟨p, hp, rfl⟩ := List.mem_map.mp hx
    exact hk p hp
theorem dMul_int2 {i j : Int} (h : -(2 ^ 64) < j ∧ j < 2 ^ 64) : dMul (.int i) (.int j) = pure (.int (i * j)) := by
  show guardB (mulOk i j) (pure (D.int (i * j))) = _
  rw [guard_of (by unfold mulOk; simp; omega)]
theorem range_eq (n : Nat) (h : n ≤ 1000) : dRange [.int n] = pure ((List.range n).map fun (k : Nat) => D.int (0 + (k : Int))) := by
  show guardB (decide (-(2 ^ 62) ≤ (n : Int) ∧ (n : Int) < 2 ^ 62)) (pure (intsD 0 (n : Int).toNat)) = _
  rw [guard_of (decide_eq_true (by omega)), Int.toNat_natCast]
  rfl
theorem tuples_eq {le : Int} (h0 : 0 ≤ le) (h9 : le ≤ 9) (n : Nat) (hn : n ≤ 3) : m_tuples_of [.int le, .int n] = pure (.int ((2 * le + 1) ^ n)) := by
  obtain ⟨e', h1, h2⟩ := for_foldT (tg := gN 3) (b := cSet 2 (eBin dMul (eVar 2) (eBin dAdd (eBin dMul (eC (.int 2)) (eVar 0)) (eC (.int 1))))) (fun (k : Nat) => D.int (0 + (k : Int))) (fun i (s : Int) env => s = (2 * le + 1) ^ i ∧ ∃ a, env = [some (.int le), some (.int n), some (.int s), a]) (fun s _ => s * (2 * le + 1)) (List.range n) 0 1 [some (.int le), some (.int n), some (.int 1), none] ⟨(Int.pow_zero _).symm, _, rfl⟩ fun k hk j s env hj hJ => by
    obtain ⟨hs, a, rfl⟩ := hJ
    refine ⟨_, _, rfl, st_set (ev_bin (ev_var rfl) (ev_bin (ev_bin ev_c (ev_var rfl) (dMul_int (by omega))) ev_c (dAdd_int _ _)) (dMul_int2 (by omega))), ?_, _, rfl⟩
    rw [hs, Int.pow_succ]
  obtain ⟨hs, a, rfl⟩ := h2
  refine def_ret (st_seq (st_set ev_c) (st_seq (st_for (ev_iRange (ev_cons (ev_var rfl) ev_nil) (range_eq n (by omega))) h1) (st_ret (ev_var ?_))))
  rw [hs, List.length_range, Nat.zero_add]
  rfl
theorem init_eq {y : Yd} (o : YdOk y) : m_Yard_init [.lst (namesD y.ns), .lst (beamsD y.bs), .int y.mo, .int y.le] = pure (fldsD y) := by
  have n8 := o.n8
  have b3 := o.b3
  have lb : (beamsD y.bs).length = y.bs.length := List.length_map ..
  have E0 : initM 5 b_Yard_init [.lst (namesD y.ns), .lst (beamsD y.bs), .int y.mo, .int y.le] = b_Yard_init [none, some (.lst (namesD y.ns)), some (.lst (beamsD y.bs)), some (.int y.mo), some (.int y.le)] [] := rfl
  show initM 5 b_Yard_init _ = _
  rw [E0]
  refine in_if (ev_tOr (t1 := false) (t2 := false) (ev_tNot (t := true) (ev_tB (ev_call (ev_cons (ev_var rfl) (ev_cons ev_c ev_nil)) rfl (are_names_eq o.n1 (by omega) (by omega) o.nk o.nd)))) fun _ => ev_tNot (t := true) (ev_tB (ev_call (ev_cons (ev_var rfl) ev_nil) rfl (are_beams_eq o.b1 o.b3 o.bk o.st o.bd)))) rfl ?_
  refine in_if (ev_tOr (t1 := false) (t2 := false) (ev_tNot (t := true) (ev_tB (ev_call (ev_cons (ev_var rfl) (ev_cons ev_c (ev_cons ev_c ev_nil))) rfl ?_))) fun _ => ev_tNot (t := true) (ev_tB (ev_call (ev_cons (ev_var rfl) (ev_cons ev_c (ev_cons ev_c ev_nil))) rfl ?_))) rfl ?_
  · rw [is_from_int, decide_eq_true o.m1, decide_eq_true o.m2]; rfl
  · rw [is_from_int, decide_eq_true o.l1, decide_eq_true o.l2]; rfl
  refine in_if (t := false) (ev_tB (ev_bin (x := .int ((2 * y.le + 1) ^ y.bs.length)) (ev_call (ev_cons (ev_var rfl) (ev_cons (x := .int y.bs.length) (ev_un (ev_var rfl) ?_) ev_nil)) rfl (tuples_eq o.l1 o.l2 _ o.b3)) ev_c ?_)) rfl ?_
  · show pure (D.int (beamsD y.bs).length) = _
    rw [lb]
  · rw [dGt_int, decide_eq_false (by have := o.tu; omega)]
  refine in_fld (ev_un (ev_var rfl) rfl) rfl (in_fld (ev_un (ev_var rfl) rfl) rfl (in_fld (ev_var rfl) rfl (in_fld (ev_var rfl) rfl ?_)))
  kernel_rfl
def Wd.turned (w : Wd) : Wd := ⟨w.ks.reverse, w.f, w.bk.reverse, w.g⟩
theorem WdOk.turned {y : Yd} {w : Wd} (h : WdOk y w) : WdOk y w.turned := ⟨(List.reverse_perm _).trans h.kp, (List.reverse_perm _).trans h.bp, h.f, h.g⟩
theorem pairsD_items (f : Str → Int) : ∀ ks : List Str, pairsD (ks.map fun k => D.tup [.str k, .int (f k)]) = some (dOf ks f)
  | [] => rfl
  | k :: ks => by
    rw [List.map_cons]
    show (match pairD (D.tup [.str k, .int (f k)]), pairsD (ks.map fun k => D.tup [.str k, .int (f k)]) with
      | some a, some b => some (a :: b)
      | _, _ => none) = _
    rw [pairsD_items f ks]
    rfl
theorem turn_dic {ks : List Str} {f : Str → Int} (nd : ks.Nodup) {env : Ev} (h : env[1]? = some (some (.dic (dOf ks f)))) : eUn dDict (eUn dRev (eUn dItL (eVar 1))) env = pure (.dic (dOf ks.reverse f)) := by
  refine ev_un (x := .lst (ks.reverse.map fun k => D.tup [.str k, .int (f k)])) (ev_un (x := .lst (ks.map fun k => D.tup [.str k, .int (f k)])) (ev_un (ev_var h) ?_) ?_) ?_
  · show pure (D.lst ((dOf ks f).map fun kv => D.tup [keyOf kv.1, kv.2])) = _
    unfold dOf
    rw [List.map_map]; rfl
  · show pure (D.lst (ks.map fun k => D.tup [.str k, .int (f k)]).reverse) = _
    rw [List.map_reverse]
  · show (match pairsD (ks.reverse.map fun k => D.tup [.str k, .int (f k)]) with
      | some kd => pure (D.dic (mergeD [] kd))
      | none => bad) = _
    rw [pairsD_items]
    show pure (D.dic (mergeD [] (dOf ks.reverse f))) = _
    rw [mergeD_dOf ((List.reverse_perm ks).nodup_iff.mpr nd)]
theorem sh_small {y : Yd} (o : YdOk y) {rs : List Rw} (hr : ∀ r ∈ rs, RwOk y r) (hl : rs.length ≤ 1000) {b : Str} (hb : b ∈ y.bn) : (shO (fnOf y.bs) rs b).natAbs < 10 ^ 12 := by
  have sm := st_small o hb
  have g : ∀ l : List Rw, (∀ r ∈ l, RwOk y r) → (l.map fun r => tiW r.u (fnOf y.bs b)).sum ≤ 5 * (l.length : Int) ∧ -(5 * (l.length : Int)) ≤ (l.map fun r => tiW r.u (fnOf y.bs b)).sum := by
    intro l
    induction l with
    | nil => exact fun _ => ⟨by simp, by simp⟩
    | cons r l ih =>
      intro h
      have i := ih fun x hx => h x (List.mem_cons_of_mem _ hx)
      have t : tiW r.u (fnOf y.bs b) ≤ 5 ∧ -5 ≤ tiW r.u (fnOf y.bs b) := by
        unfold tiW
        split
        · omega
        · split <;> omega
      rw [List.map_cons, List.sum_cons, List.length_cons]
      omega
  have k := g (rs.filter fun r => decide (r.w.b = b)) fun r h => hr r (List.mem_filter.mp h).1
  have fl := List.length_filter_le (fun r : Rw => decide (r.w.b = b)) rs
  unfold shO
  omega
theorem sh_repr {y : Yd} (o : YdOk y) {rs : List Rw} (hr : ∀ r ∈ rs, RwOk y r) (hl : rs.length ≤ 1000) : ∃ z, dRepr (.dic (dOf y.bn (shO (fnOf y.bs) rs))) = pure (.str z) :=
  dic_repr (fun k hk => ⟨bn_name o hk, sh_small o hr hl hk⟩) (by have := o.b3; unfold Yd.bn; rw [List.length_map]; omega)
end Cm
end
section
set_option Elab.async false
set_option linter.all false
set_option maxRecDepth 100000
set_option maxHeartbeats 400000
/-! what is drawn: names, rows -/
namespace Cm
open PySem PySem.Spec PyProof.Rows L2 Mir
inductive F2 {α β : Type} (P : α → β → Prop) : List α → List β → Prop
  | nil : F2 P [] []
  | cons {x : α} {y : β} {xs : List α} {ys : List β} : P x y → F2 P xs ys → F2 P (x :: xs) (y :: ys)
section
variable {α β σ : Type} {ma mb m : Ev → M D} {a b : Ev → M Ctl} {ms : Ev → M (List D)} {env e : Ev} {x y z : D} {xs ys ds : List D} {k k1 k2 i j nn : Nat} {f : List D → M D} {P P1 P2 Q : D → Prop} {R : Ctl → Prop} {n : Ev → M Bool}
theorem dr_eq {m : M α} {x : α} {P : α → Prop} (h : m = pure x) (p : P x) : Dr k m P := by rw [h]; exact Dr.pure p
theorem dr_set (h1 : Dr k1 (m env) P) (h2 : ∀ x, P x → Dr k2 (b (env.set i (some x))) R) (hk : k1 + k2 ≤ k) : Dr k (cSeq (cSet i m) b env) R := by
  have e : cSeq (cSet i m) b env = m env >>= fun x => b (env.set i (some x)) := by
    unfold cSeq cSet
    rw [bind_assoc']
    rfl
  rw [e]
  exact Dr.bind h1 h2 hk
theorem dr_seq (h : a env = pure (.nx e)) (h2 : Dr k (b e) R) : Dr k (cSeq a b env) R := by
  rw [st_seq h rfl]; exact h2
theorem dr_seqD {P : Ctl → Prop} (h1 : Dr k1 (a env) P) (h2 : ∀ c, P c → ∃ e, c = .nx e ∧ Dr k2 (b e) R) (hk : k1 + k2 ≤ k) : Dr k (cSeq a b env) R := by
  unfold cSeq
  refine Dr.bind h1 (fun c pc => ?_) hk
  obtain ⟨e, rfl, h⟩ := h2 c pc
  exact h
theorem dr_ret (h : Dr k (m env) P) : Dr k (cRet m env) fun c => ∃ x, c = .ret x ∧ P x := by
  unfold cRet
  exact Dr.bind (k2 := 0) h (fun x px => Dr.pure ⟨x, rfl, px⟩) (Nat.le_refl _)
theorem dr_def (h : Dr k (a (ds.map some ++ List.replicate (nn - ds.length) none)) fun c => ∃ x, c = .ret x ∧ P x) : Dr k (defM nn a ds) P := by
  unfold defM
  refine Dr.bind (k2 := 0) h (fun c ⟨x, e, px⟩ => ?_) (Nat.le_refl _)
  subst e
  exact Dr.pure px
theorem dr_call (h : ms env = pure xs) (hl : (xs.length == nn) = true) (h2 : Dr k (f xs) P) : Dr k (eCall nn f ms env) P := by
  unfold eCall
  rw [h, pure_bind', guard_of hl]
  exact h2
theorem dr_callD {A : List D → Prop} (h : Dr k1 (ms env) A) (h2 : ∀ xs, A xs → (xs.length == nn) = true ∧ Dr k2 (f xs) P) (hk : k1 + k2 ≤ k) : Dr k (eCall nn f ms env) P := by
  unfold eCall
  exact Dr.bind h (fun xs ax => Dr.guard (h2 xs ax).1 (h2 xs ax).2) hk
theorem dr_bin {g : D → D → M D} (h1 : Dr k1 (ma env) P1) (h2 : ∀ x, P1 x → Dr k2 (mb env) P2) (h : ∀ x y, P1 x → P2 y → ∃ z, g x y = pure z ∧ P z) (hk : k1 + k2 ≤ k) : Dr k (eBin g ma mb env) P := by
  unfold eBin
  refine Dr.bind h1 (fun x px => Dr.bind (k2 := 0) (h2 x px) (fun y py => ?_) (Nat.le_refl _)) hk
  obtain ⟨z, e, pz⟩ := h x y px py
  exact dr_eq e pz
/-- pure on the left -/
theorem dr_binL {g : D → D → M D} (h1 : ma env = pure x) (h2 : Dr k (mb env) P2) (h : ∀ y, P2 y → ∃ z, g x y = pure z ∧ P z) : Dr k (eBin g ma mb env) P :=
  dr_bin (k1 := 0) (dr_eq (P := fun z => z = x) h1 rfl) (fun _ _ => h2) (fun u v hu hv => by subst hu; exact h v hv) (by omega)
/-- pure on the right -/
theorem dr_binR {g : D → D → M D} (h1 : Dr k (ma env) P1) (h2 : mb env = pure y) (h : ∀ x, P1 x → ∃ z, g x y = pure z ∧ P z) : Dr k (eBin g ma mb env) P :=
  dr_bin (k2 := 0) h1 (fun _ _ => dr_eq (P := fun z => z = y) h2 rfl) (fun u v hu hv => by subst hv; exact h u hu) (by omega)
theorem dr_un {u : D → M D} (h1 : Dr k (m env) P1) (h : ∀ x, P1 x → ∃ z, u x = pure z ∧ P z) : Dr k (eUn u m env) P := by
  unfold eUn
  refine Dr.bind (k2 := 0) h1 (fun x px => ?_) (Nat.le_refl _)
  obtain ⟨z, e, pz⟩ := h x px
  exact dr_eq e pz
theorem dr_nil {A : List D → Prop} (h : A []) : Dr k (aNil env) A := Dr.pure h
theorem dr_cons {A A2 : List D → Prop} (h1 : Dr k1 (m env) P1) (h2 : ∀ x, P1 x → Dr k2 (ms env) A2) (h : ∀ x xs, P1 x → A2 xs → A (x :: xs)) (hk : k1 + k2 ≤ k) : Dr k (aCons m ms env) A := by
  unfold aCons
  exact Dr.bind h1 (fun x px => Dr.bind (k2 := 0) (h2 x px) (fun xs pxs => Dr.pure (h x xs px pxs)) (Nat.le_refl _)) hk
theorem dr_consP {A A2 : List D → Prop} (h1 : m env = pure x) (h2 : Dr k (ms env) A2) (h : ∀ xs, A2 xs → A (x :: xs)) : Dr k (aCons m ms env) A :=
  dr_cons (k1 := 0) (dr_eq (P := fun z => z = x) h1 rfl) (fun _ _ => h2) (fun u v hu hv => by subst hu; exact h v hv) (by omega)
theorem dr_tup {A : List D → Prop} (h : Dr k (ms env) A) (h2 : ∀ xs, A xs → decide (xs.length ≤ sizeLine) = true ∧ P (.tup xs)) : Dr k (eTup ms env) P := by
  unfold eTup
  exact Dr.bind (k2 := 0) h (fun xs ax => Dr.guard (h2 xs ax).1 (Dr.pure (h2 xs ax).2)) (Nat.le_refl _)
theorem dr_iRange {A : List D → Prop} (h : Dr k (ms env) A) (h2 : ∀ xs, A xs → ∃ ys, dRange xs = pure ys ∧ ∃ n : Nat, n ≤ nn ∧ ys = (List.range n).map fun (j : Nat) => D.int (0 + (j : Int))) : Dr k (iRange ms env) fun ys => ∃ n : Nat, n ≤ nn ∧ ys = (List.range n).map fun (j : Nat) => D.int (0 + (j : Int)) := by
  unfold iRange
  refine Dr.bind (k2 := 0) h (fun xs ax => ?_) (Nat.le_refl _)
  obtain ⟨ys, e, p⟩ := h2 xs ax
  exact dr_eq e p
theorem dr_lc {tg : Ev → D → Option Ev} {vs : List Nat} {A B : List D → Prop} (h : Dr k1 (ms env) A) (h2 : ∀ ds, A ds → Dr k2 (lcGo (wipeE env vs) tg n m ds []) B) (hP : ∀ ys, B ys → P (.lst ys)) (hk : k1 + k2 ≤ k) : Dr k (eLc ms vs tg n m env) P := by
  unfold eLc
  exact Dr.bind h (fun ds ad => Dr.bind (k2 := 0) (h2 ds ad) (fun ys by' => Dr.pure (hP ys by')) (Nat.le_refl _)) hk
theorem dr_if {t : Bool} (h : n env = pure t) (h1 : t = true → Dr k (ma env) P) (h2 : t = false → Dr k (mb env) P) : Dr k (eIf n ma mb env) P := by
  unfold eIf
  rw [h, pure_bind']
  cases t with
  | true => exact h1 rfl
  | false => exact h2 rfl
theorem dr_cif {B : Bool → Prop} (h : Dr k1 (n env) B) (h1 : B true → Dr k2 (a env) R) (h2 : B false → Dr k2 (b env) R) (hk : k1 + k2 ≤ k) : Dr k (cIf n a b env) R := by
  unfold cIf
  refine Dr.bind h (fun t bt => ?_) hk
  cases t with
  | true => rw [if_pos rfl]; exact h1 bt
  | false => rw [if_neg (by decide)]; exact h2 bt
/-- a comprehension that draws, item by item -/
theorem lc_drT {e0 : Ev} {tg : Ev → D → Option Ev} {me : Ev → M D} (φ : α → D) (P : α → D → Prop) : ∀ (xs : List α) (acc : List D), (∀ x ∈ xs, ∃ e, tg e0 (φ x) = some e ∧ Dr k (me e) (P x)) → acc.length + xs.length ≤ sizeLine →
    Dr (xs.length * k) (lcGo e0 tg nYes me (xs.map φ) acc) fun ys => ∃ zs, ys = acc ++ zs ∧ F2 P xs zs
  | [], acc, _, _ => Dr.pure ⟨[], by rw [List.append_nil], .nil⟩
  | x :: xs, acc, h, hl => by
    obtain ⟨e, et, hm⟩ := h x (List.mem_cons_self ..)
    rw [List.map_cons]
    have eq : lcGo e0 tg nYes me (φ x :: xs.map φ) acc = me e >>= fun y => guardB (decide (acc.length < sizeLine)) (lcGo e0 tg nYes me (xs.map φ) (acc ++ [y])) := by
      simp only [lcGo, et, nYes, pure_bind', if_true]
    rw [eq]
    rw [List.length_cons] at hl
    refine Dr.bind (k2 := xs.length * k) hm (fun y py => Dr.guard (decide_eq_true (by omega)) ?_) (by rw [List.length_cons, Nat.add_mul, Nat.one_mul]; omega)
    refine (lc_drT φ P xs (acc ++ [y]) (fun z hz => h z (List.mem_cons_of_mem _ hz)) (by rw [List.length_append, List.length_singleton]; omega)).imp (Nat.le_refl _) fun ys ⟨zs, e1, e2⟩ => ?_
    exact ⟨y :: zs, by rw [e1, List.append_assoc]; rfl, .cons py e2⟩
end
theorem f2_length {α β : Type} {P : α → β → Prop} {xs : List α} {ys : List β} (h : F2 P xs ys) : xs.length = ys.length := by
  induction h with
  | nil => rfl
  | cons _ _ ih => rw [List.length_cons, List.length_cons, ih]
theorem f2_map {α β γ : Type} {P : α → β → Prop} {Q : γ → Prop} {φ : γ → β} {xs : List α} {ys : List β} (h : F2 P xs ys) (hp : ∀ x ∈ xs, ∀ y, P x y → ∃ c, y = φ c ∧ Q c) : ∃ cs : List γ, ys = cs.map φ ∧ cs.length = xs.length ∧ ∀ c ∈ cs, Q c := by
  induction h with
  | nil => exact ⟨[], rfl, rfl, fun _ h => nomatch h⟩
  | @cons x y xs ys p _ ih =>
    obtain ⟨cs, e1, e2, e3⟩ := ih fun z hz => hp z (List.mem_cons_of_mem _ hz)
    obtain ⟨c, f1, f2⟩ := hp x (List.mem_cons_self ..) y p
    refine ⟨c :: cs, by rw [e1, f1]; rfl, by rw [List.length_cons, List.length_cons, e2], fun d hd => ?_⟩
    rcases List.mem_cons.mp hd with q | q
    · rw [q]; exact f2
    · exact e3 d q
/-! ### letters -/
def LT : Str := "abcdefghijklmnopqrstuvwxyz"
def chD (c : Nat) : D := .str ⟨#[c]⟩
theorem LT_at : ∀ j : Fin 26, LT.cps.toList[j.val]? = some (97 + j.val) := by decide +kernel
theorem LT_len : LT.cps.toList.length = 26 := by decide +kernel
theorem LT_mem {c : Nat} (h : c ∈ LT.cps.toList) : 97 ≤ c ∧ c < 123 := by
  have g : ∀ c ∈ LT.cps.toList, 97 ≤ c ∧ c < 123 := by decide +kernel
  exact g c h
theorem mem_LT {j : Nat} (h : j < 26) : 97 + j ∈ LT.cps.toList := List.mem_of_getElem? (LT_at ⟨j, h⟩)
theorem at_LT {i : Int} (h0 : 0 ≤ i) (h1 : i < 26) : dAt (.str LT) (.int i) = pure (chD (97 + i.toNat)) := by
  obtain ⟨j, rfl⟩ : ∃ j : Nat, i = j := ⟨_, (Int.toNat_of_nonneg h0).symm⟩
  show guardB (decide (LT.length ≤ sizeLine)) (match atI LT.cps.toList (j : Int) with
    | some c => pure (D.str ⟨#[c]⟩)
    | none => bad : M D) = _
  rw [guard_of (by decide +kernel), atI_nat (LT_at ⟨j, by omega⟩), Int.toNat_natCast]
  rfl
theorem strs_chD : ∀ cs : List Nat, strsD (cs.map chD) = some (cs.map fun c => ⟨#[c]⟩)
  | [] => rfl
  | c :: cs => by
    rw [List.map_cons]
    show (strsD (cs.map chD)).map _ = _
    rw [strs_chD cs]; rfl
theorem joinL_one : ∀ cs : List Nat, TL.joinL [] (cs.map fun c => [c]) = cs
  | [] => rfl
  | [c] => rfl
  | c :: d :: r => by
    have e := joinL_one (d :: r)
    show [c] ++ ([] ++ TL.joinL [] ((d :: r).map fun c => [c])) = c :: d :: r
    rw [e]; rfl
theorem join_chD (cs : List Nat) (h : cs.length ≤ 100) : dJoin (.str "") (.lst (cs.map chD)) = pure (.str ⟨cs.toArray⟩) := by
  show (match strsD (cs.map chD) with
    | some ys => guardB (decide ((ys.map fun y : Str => y.length).sum + ys.length * ("" : Str).length ≤ 16777216)) (pure (D.str (Txt.join "" ys)))
    | none => bad) = _
  rw [strs_chD]
  have e0 : ("" : Str).length = 0 := by decide +kernel
  have es : ((cs.map fun c => (⟨#[c]⟩ : Str)).map fun x : Str => x.length).sum = cs.length := by
    clear h
    induction cs with
    | nil => rfl
    | cons c cs ih => rw [List.map_cons, List.map_cons, List.sum_cons, ih, List.length_cons]; show 1 + _ = _; omega
  show guardB _ _ = _
  rw [guard_of (decide_eq_true (by rw [es, e0]; omega))]
  congr 2
  refine TL.ext_tl ((congrArg TL.tl (TL.join_eq _ _)).trans ?_)
  rw [TL.tl_join, List.map_map]
  exact joinL_one cs
theorem range26 {t : Int} (h : t = 1 ∨ t = 3 ∨ t = 5 ∨ t = 7 ∨ t = 9 ∨ t = 11) {s : Int} {k k' : Nat} (hk : k < 26) (hk' : k' < 26) (e : (s + t * k) % 26 = (s + t * k') % 26) : k = k' := by
  rcases h with h | h | h | h | h | h <;> subst h <;> omega
/-- the k-th of drawn names -/
def nmK (cs : List Nat) (at' : Nat) (s t : Int) (k : Nat) : Str := ⟨(cs.set at' (97 + ((s + t * (k : Int)) % 26).toNat)).toArray⟩
theorem nmK_ok {cs : List Nat} (h1 : 1 ≤ cs.length) (h8 : cs.length ≤ 8) (hc : ∀ c ∈ cs, c ∈ LT.cps.toList) (at' : Nat) (s t : Int) (k : Nat) : NameOk (nmK cs at' s t k) := by
  refine ⟨?_, ?_, fun c h => ?_⟩
  · show 1 ≤ (cs.set at' _).toArray.size
    rw [List.size_toArray, List.length_set]; exact h1
  · show (cs.set at' _).toArray.size ≤ 8
    rw [List.size_toArray, List.length_set]; exact h8
  · have h' : c ∈ cs.set at' (97 + ((s + t * (k : Int)) % 26).toNat) := h
    rcases List.mem_or_eq_of_mem_set h' with q | q
    · exact hc c q
    · rw [q]; exact mem_LT (by omega)
theorem nmK_inj {cs : List Nat} {at' : Nat} (ha : at' < cs.length) {s t : Int} (h : t = 1 ∨ t = 3 ∨ t = 5 ∨ t = 7 ∨ t = 9 ∨ t = 11) {k k' : Nat} (hk : k < 26) (hk' : k' < 26) (e : nmK cs at' s t k = nmK cs at' s t k') : k = k' := by
  have e1 : cs.set at' (97 + ((s + t * (k : Int)) % 26).toNat) = cs.set at' (97 + ((s + t * (k' : Int)) % 26).toNat) := by
    have := congrArg (fun x : Str => x.cps.toList) e
    simpa [nmK] using this
  have e2 := congrArg (fun l : List Nat => l[at']?) e1
  simp only [List.getElem?_set_self ha] at e2
  injection e2 with e3
  exact range26 (s := s) h hk hk' (by omega)
theorem names_nd {cs : List Nat} {at' : Nat} (ha : at' < cs.length) {s t : Int} (h : t = 1 ∨ t = 3 ∨ t = 5 ∨ t = 7 ∨ t = 9 ∨ t = 11) {n : Nat} (hn : n ≤ 26) : ((List.range n).map (nmK cs at' s t)).Nodup := by
  refine List.pairwise_map.mpr (List.Pairwise.imp_of_mem (fun {a b} ma mb hab e => hab ?_) List.nodup_range)
  exact nmK_inj ha h (by have := List.mem_range.mp ma; omega) (by have := List.mem_range.mp mb; omega) e
theorem names_dr (n : Nat) (hn : n ≤ 26) : Dr 20 (m__law_names [.st, .int n]) fun x => ∃ ns : List Str, x = .lst (namesD ns) ∧ ns.length = n ∧ ns.Nodup ∧ ∀ z ∈ ns, NameOk z := by
  have hz : (1000 : Nat) ≤ sizeLine := by decide
  refine dr_def ?_
  refine dr_seq (st_set ev_c) ?_
  refine dr_set (k1 := 9) (k2 := 11) (P := fun x => ∃ cs : List Nat, x = .lst (cs.map chD) ∧ 1 ≤ cs.length ∧ cs.length ≤ 8 ∧ ∀ c ∈ cs, c ∈ LT.cps.toList) ?_ ?_ (by decide)
  · refine dr_lc (k1 := 1) (k2 := 8) (A := fun ys => ∃ n : Nat, 1 ≤ n ∧ n ≤ 8 ∧ ys = (List.range n).map fun (j : Nat) => D.int (0 + (j : Int))) (B := fun ys => ∃ cs : List Nat, ys = cs.map chD ∧ 1 ≤ cs.length ∧ cs.length ≤ 8 ∧ ∀ c ∈ cs, c ∈ LT.cps.toList) ?_ ?_ (fun ys ⟨cs, e, r⟩ => ⟨cs, by rw [e], r⟩) (by decide)
    · unfold iRange
      refine Dr.bind (k1 := 1) (k2 := 0) (P := fun xs => ∃ n : Nat, 1 ≤ n ∧ n ≤ 8 ∧ xs = [.int n]) ?_ (fun xs ⟨n, n1, n8, e⟩ => by
          rw [e]
          have q := range_eq n (by omega)
          exact dr_eq q ⟨n, n1, n8, rfl⟩) (by decide)
      refine dr_cons (k1 := 1) (k2 := 0) (P1 := fun x => ∃ n : Nat, 1 ≤ n ∧ n ≤ 8 ∧ x = .int n) (A2 := fun xs => xs = []) ?_ (fun x _ => dr_nil rfl) (fun x xs ⟨n, a, b, e⟩ e2 => ⟨n, a, b, by rw [e, e2]⟩) (by decide)
      refine dr_binL ev_c (dr_call (ev_cons (ev_var rfl) (ev_cons ev_c ev_nil)) rfl (next_dr (by decide) (by decide))) fun y ⟨i, e, i0, i1⟩ => ?_
      subst e
      refine ⟨_, dAdd_int _ _, (1 + i).toNat, by omega, by omega, ?_⟩
      rw [Int.toNat_of_nonneg (by omega)]
    · intro ds ⟨n, n1, n8, e⟩
      subst e
      refine (lc_drT (k := 1) (fun (j : Nat) => D.int (0 + (j : Int))) (fun _ x => ∃ c ∈ LT.cps.toList, x = .str ⟨#[c]⟩) (List.range n) [] (fun j hj => ⟨_, rfl, dr_call (ev_cons (ev_var rfl) (ev_cons (ev_var rfl) ev_nil)) rfl (pickS_dr (z := LT) (by decide +kernel) (by decide +kernel) rfl)⟩) (by simp; omega)).imp (by rw [List.length_range]; omega) fun ys ⟨zs, e1, e2⟩ => ?_
      obtain ⟨cs, f1, f2, f3⟩ := f2_map (φ := chD) (Q := fun c => c ∈ LT.cps.toList) e2 fun x _ y ⟨c, hc, e⟩ => ⟨c, e, hc⟩
      rw [List.length_range] at f2
      exact ⟨cs, by rw [e1, f1, List.nil_append], by omega, by omega, f3⟩
  · intro x ⟨cs, e, c1, c8, hc⟩
    subst e
    have lcs : (cs.map chD).length = cs.length := List.length_map ..
    refine dr_set (k1 := 1) (k2 := 2) (P := fun x => ∃ a : Nat, x = .int a ∧ a < cs.length) (dr_call (xs := [.st, .int cs.length]) (ev_cons (ev_var rfl) (ev_cons (ev_un (ev_var rfl) (by show pure (D.int (cs.map chD).length) = _; rw [lcs])) ev_nil)) rfl ((next_dr (by omega) (by omega)).imp (Nat.le_refl _) fun x ⟨i, e, i0, i1⟩ => ⟨i.toNat, by rw [e, Int.toNat_of_nonneg i0], by omega⟩)) ?_ (by decide)
    intro x ⟨a, e, ha⟩
    subst e
    refine dr_seqD (k1 := 2) (k2 := 0) (P := fun c => ∃ (s t : Int), (t = 1 ∨ t = 3 ∨ t = 5 ∨ t = 7 ∨ t = 9 ∨ t = 11) ∧ c = .nx [some .st, some (.int n), some (.str LT), some (.lst (cs.map chD)), none, some (.int a), some (.int s), some (.int t), none]) ?_ ?_ (by decide)
    · unfold cPar2
      refine Dr.bind (k1 := 1) (k2 := 1) (dr_call (ev_cons (ev_var rfl) (ev_cons ev_c ev_nil)) rfl (next_dr (by decide) (by decide))) (fun x ⟨s, e, _, _⟩ => ?_) (by decide)
      subst e
      refine Dr.bind (k1 := 1) (k2 := 0) (dr_call (ev_cons (ev_var rfl) (ev_cons (ev_lst (ev_cons ev_c (ev_cons ev_c (ev_cons ev_c (ev_cons ev_c (ev_cons ev_c (ev_cons ev_c ev_nil)))))) rfl) ev_nil)) rfl (pick_dr (by simp) (by simp))) (fun x hx => ?_) (by decide)
      simp only [List.mem_cons, List.not_mem_nil, or_false] at hx
      refine Dr.pure ⟨s, ?_⟩
      rcases hx with e | e | e | e | e | e <;> subst e
      · exact ⟨1, by omega, rfl⟩
      · exact ⟨3, by omega, rfl⟩
      · exact ⟨5, by omega, rfl⟩
      · exact ⟨7, by omega, rfl⟩
      · exact ⟨9, by omega, rfl⟩
      · exact ⟨11, by omega, rfl⟩
    · intro c ⟨s, t, ht, e⟩
      refine ⟨_, e, ?_⟩
      have tb : -(2 ^ 64) < t ∧ t < 2 ^ 64 := by omega
      have q8 : ∀ env : Ev, eLst aNil env = pure (.lst []) := fun _ => ev_lst ev_nil rfl
      have q9 := fun env : Ev => st_set (i := 8) (q8 env)
      refine dr_seq (q9 _) ?_
      obtain ⟨e', h1, h2⟩ := for_foldT (tg := gN 4) (b := cSeq (cSetL 3 (eVar 5) (eBin dAt (eVar 2) (eBin dMod (eBin dAdd (eVar 6) (eBin dMul (eVar 7) (eVar 4))) (eC (.int 26))))) (cApp 8 (eBin dJoin (eC (.str "")) (eVar 3)))) (fun (k : Nat) => D.int (0 + (k : Int)))
        (fun i (s' : List Str) env => s'.length = i ∧ ∃ cs' a4, cs'.length = cs.length ∧ (∀ v, cs'.set a v = cs.set a v) ∧ env = [some .st, some (.int n), some (.str LT), some (.lst (cs'.map chD)), a4, some (.int a), some (.int s), some (.int t), some (.lst (namesD s'))]) (fun s' k => s' ++ [nmK cs a s t k]) (List.range n) 0 [] [some .st, some (.int n), some (.str LT), some (.lst (cs.map chD)), none, some (.int a), some (.int s), some (.int t), some (.lst [])] ⟨rfl, cs, none, rfl, fun _ => rfl, rfl⟩ fun k hk j s' env hj hJ => by
          obtain ⟨hs, cs', a4, hl, hset, rfl⟩ := hJ
          have m0 : 0 ≤ (s + t * (k : Int)) % 26 := Int.emod_nonneg _ (by decide)
          have m1 : (s + t * (k : Int)) % 26 < 26 := Int.emod_lt_of_pos _ (by decide)
          have lcs' : (cs'.map chD).length = cs'.length := List.length_map ..
          have lrn : (List.range n).length = n := List.length_range
          refine ⟨_, [some .st, some (.int n), some (.str LT), some (.lst ((cs.set a (97 + ((s + t * (k : Int)) % 26).toNat)).map chD)), some (.int (0 + (k : Int))), some (.int a), some (.int s), some (.int t), some (.lst (namesD (s' ++ [nmK cs a s t k])))], rfl, ?_, ?_⟩
          · refine st_seq (st_setL (y := chD (97 + ((s + t * (k : Int)) % 26).toNat)) (q := a) (j := a) (ev_bin (ev_var rfl) (ev_bin (ev_bin (ev_var rfl) (ev_bin (ev_var rfl) (ev_var rfl) (dMul_int tb)) (dAdd_int _ _)) ev_c (dMod_int (by decide))) ?_) (ev_var rfl) rfl ?_) ?_
            · rw [Int.zero_add]
              exact at_LT m0 m1
            · show (if (0 : Int) ≤ (a : Int) then (if (a : Int) < ((cs'.map chD).length : Int) then some (a : Int).toNat else none) else _) = _
              rw [if_pos (by omega), if_pos (by rw [lcs', hl]; omega), Int.toNat_natCast]
            · rw [st_app (y := .str (nmK cs a s t k)) (ev_bin (x := .str "") (y := .lst ((cs.set a (97 + ((s + t * (k : Int)) % 26).toNat)).map chD)) ev_c (ev_var ?_) (join_chD _ (by rw [List.length_set]; omega))) rfl (by rw [List.length_map, hs]; omega)]
              · unfold namesD
                rw [← hset, List.map_set, List.map_append]
                rfl
              · rw [← hset, List.map_set]
                rfl
          · refine ⟨by rw [List.length_append, hs]; rfl, cs.set a (97 + ((s + t * (k : Int)) % 26).toNat), _, List.length_set .., fun v => List.set_set .., rfl⟩
      have hf : ∀ (l : List Nat) (s' : List Str), l.foldl (fun s' k => s' ++ [nmK cs a s t k]) s' = s' ++ l.map (nmK cs a s t) := fun l => by
        induction l with
        | nil => exact fun s' => (List.append_nil s').symm
        | cons p l ih => exact fun s' => by rw [List.foldl_cons, ih, List.append_assoc]; rfl
      rw [hf, List.nil_append] at h2
      obtain ⟨_, cs', a4, _, _, rfl⟩ := h2
      refine dr_seq (st_for (ev_iRange (ev_cons (ev_var rfl) ev_nil) (range_eq n (by omega))) h1) (dr_ret (dr_eq (ev_var rfl) ⟨(List.range n).map (nmK cs a s t), rfl, by rw [List.length_map, List.length_range], names_nd ha ht hn, fun z hz => ?_⟩))
      obtain ⟨k, _, rfl⟩ := List.mem_map.mp hz
      exact nmK_ok c1 c8 hc _ _ _ _
end Cm
end
section
set_option Elab.async false
set_option linter.all false
set_option maxRecDepth 100000
set_option maxHeartbeats 400000
/-! what is drawn: rows, weighings, worlds, tries -/
namespace Cm
open PySem PySem.Spec PyProof.Rows L2 Mir
theorem next_nat {n : Nat} (h0 : 0 < n) (h1 : n < 1000000) : Dr 1 (m__law_next [.st, .int n]) fun x => ∃ i : Nat, x = .int i ∧ i < n :=
  (next_dr (by omega) (by omega)).imp (Nat.le_refl _) fun x ⟨i, e, i0, i1⟩ => ⟨i.toNat, by rw [e, Int.toNat_of_nonneg i0], by omega⟩
section
variable {m : Ev → M D} {env : Ev} {k : Nat} {P : D → Prop} {ms : Ev → M (List D)}
/-- next(state, n) as an expression -/
theorem dr_next {n : Int} (h0 : 0 < n) (h1 : n < 1000000) (h : m env = pure (.int n)) (hs : env[0]? = some (some .st)) : Dr 1 (eCall 2 m__law_next (aCons (eVar 0) (aCons m aNil)) env) fun x => ∃ i, x = .int i ∧ 0 ≤ i ∧ i < n :=
  dr_call (ev_cons (ev_var hs) (ev_cons h ev_nil)) rfl (next_dr h0 (by omega))
theorem dr_pick {xs : List D} (h0 : xs ≠ []) (h1 : xs.length < 1000000) (h : m env = pure (.lst xs)) (hs : env[0]? = some (some .st)) : Dr 1 (eCall 2 m__law_pick (aCons (eVar 0) (aCons m aNil)) env) fun x => x ∈ xs :=
  dr_call (ev_cons (ev_var hs) (ev_cons h ev_nil)) rfl (pick_dr h0 (by omega))
end
theorem rev_names (ns : List Str) : dRev (.lst (namesD ns)) = pure (.lst (namesD ns.reverse)) := by
  show pure (D.lst (namesD ns).reverse) = _
  unfold namesD
  rw [List.map_reverse]
theorem cut_names (ns : List Str) (n : Nat) (h : n ≤ ns.length) : dSl (.lst (namesD ns)) none (some (n : Int)) = pure (.lst (namesD (ns.take n))) := by
  show pure (D.lst (cutL (namesD ns) none (some (n : Int)))) = _
  unfold cutL
  rw [HT.sIx_none, HT.sIx_nat, Nat.sub_zero, List.drop_zero]
  unfold namesD
  rw [List.length_map, Nat.min_eq_left h, List.map_take]
theorem tups_beams : ∀ (ns : List Str) (ss : List Int), tups2 (namesD ns) (ss.map D.int) = beamsD (ns.zip ss)
  | [], _ => rfl
  | _ :: _, [] => rfl
  | n :: ns, s :: ss => by
    show D.tup [.str n, .int s] :: tups2 (namesD ns) (ss.map D.int) = beamD (n, s) :: beamsD (ns.zip ss)
    rw [tups_beams ns ss]; rfl
def StepOk (s : Int) : Prop := -5 ≤ s ∧ s ≤ 5 ∧ s ≠ 0
theorem row_dr : Dr 100 (m__law_row [.st, .int 3, .int 8, .int 100, .int 9]) fun x => ∃ y : Yd, YdOk y ∧ x = rowD y := by
  have hz : (1000 : Nat) ≤ sizeLine := by decide
  refine dr_def ?_
  refine dr_set (k1 := 21) (k2 := 79) (P := fun x => ∃ ns : List Str, x = .lst (namesD ns) ∧ 1 ≤ ns.length ∧ ns.length ≤ 8 ∧ ns.Nodup ∧ ∀ z ∈ ns, NameOk z) ?_ ?_ (by decide)
  · refine dr_callD (k1 := 1) (k2 := 20) (A := fun xs => ∃ n : Nat, 1 ≤ n ∧ n ≤ 8 ∧ xs = [.st, .int n]) ?_ (fun xs ⟨n, n1, n8, e⟩ => ?_) (by decide)
    · refine dr_consP (ev_var rfl) (dr_cons (k1 := 1) (k2 := 0) (P1 := fun x => ∃ n : Nat, 1 ≤ n ∧ n ≤ 8 ∧ x = .int n) (A2 := fun xs => xs = []) ?_ (fun x _ => dr_nil rfl) (A := fun xs => ∃ n : Nat, 1 ≤ n ∧ n ≤ 8 ∧ xs = [.int n]) (fun x xs ⟨n, a, b, e⟩ e2 => ⟨n, a, b, by rw [e, e2]⟩) (by decide)) (fun xs ⟨n, a, b, e⟩ => ⟨n, a, b, by rw [e]⟩)
      refine dr_binL ev_c (dr_next (n := 8) (by decide) (by decide) (ev_var rfl) rfl) fun x ⟨i, e, i0, i1⟩ => ?_
      subst e
      exact ⟨_, dAdd_int _ _, (1 + i).toNat, by omega, by omega, by rw [Int.toNat_of_nonneg (by omega)]⟩
    · subst e
      exact ⟨rfl, (names_dr n (by omega)).imp (Nat.le_refl _) fun x ⟨ns, a, b, c, d⟩ => ⟨ns, a, by omega, by omega, c, d⟩⟩
  intro x ⟨ns, e, n1, n8, nd, nk⟩
  subst e
  refine dr_set (k1 := 1) (k2 := 78) (P := fun x => ∃ n : Nat, 1 ≤ n ∧ n ≤ 3 ∧ x = .int n) ?_ ?_ (by decide)
  · refine dr_binL ev_c (dr_next (n := 3) (by decide) (by decide) (ev_var rfl) rfl) fun x ⟨i, e, i0, i1⟩ => ?_
    subst e
    exact ⟨_, dAdd_int _ _, (1 + i).toNat, by omega, by omega, by rw [Int.toNat_of_nonneg (by omega)]⟩
  intro x ⟨n, b1, b3, e⟩
  subst e
  refine dr_set (k1 := 3) (k2 := 75) (P := fun x => ∃ ss : List Int, x = .lst (ss.map D.int) ∧ ss.length = n ∧ ∀ s ∈ ss, StepOk s) ?_ ?_ (by decide)
  · refine dr_lc (k1 := 0) (k2 := 3) (A := fun ys => ys = (List.range n).map fun (j : Nat) => D.int (0 + (j : Int))) (B := fun ys => ∃ ss : List Int, ys = ss.map D.int ∧ ss.length = n ∧ ∀ s ∈ ss, StepOk s) (dr_eq (ev_iRange (ev_cons (ev_var rfl) ev_nil) (range_eq n (by omega))) rfl) ?_ (fun ys ⟨ss, e, r⟩ => ⟨ss, by rw [e], r⟩) (by decide)
    intro ds e
    subst e
    refine (lc_drT (k := 1) (fun (j : Nat) => D.int (0 + (j : Int))) (fun _ x => ∃ s, x = .int s ∧ StepOk s) (List.range n) [] (fun j hj => ⟨_, rfl, (dr_pick (by simp) (by simp) (ev_lst (ev_cons ev_c (ev_cons ev_c (ev_cons ev_c (ev_cons (ev_neg ev_c) (ev_cons ev_c (ev_cons (ev_neg ev_c) (ev_cons ev_c (ev_cons (ev_neg ev_c) (ev_cons (ev_neg ev_c) (ev_cons (ev_neg ev_c) ev_nil)))))))))) rfl) rfl).imp (Nat.le_refl _) fun x hx => ?_⟩) (by simp; omega)).imp (by rw [List.length_range]; omega) fun ys ⟨zs, e1, e2⟩ => ?_
    · simp only [List.mem_cons, List.not_mem_nil, or_false] at hx
      rcases hx with e | e | e | e | e | e | e | e | e | e <;> exact ⟨_, e, by unfold StepOk; omega⟩
    · obtain ⟨ss, f1, f2, f3⟩ := f2_map (φ := D.int) (Q := StepOk) e2 fun x _ y ⟨s, e, hs⟩ => ⟨s, e, hs⟩
      rw [List.length_range] at f2
      exact ⟨ss, by rw [e1, f1, List.nil_append], f2, f3⟩
  intro x ⟨ss, e, sl, sk⟩
  subst e
  refine dr_set (k1 := 20) (k2 := 55) (P := fun x => ∃ cs : List Str, x = .lst (namesD cs) ∧ cs.length = n ∧ cs.Nodup ∧ ∀ z ∈ cs, NameOk z) (dr_call (ev_cons (ev_var rfl) (ev_cons (ev_var rfl) ev_nil)) rfl (names_dr n (by omega))) ?_ (by decide)
  intro x ⟨cs, e, cl, cd, ck⟩
  subst e
  have lns : (namesD ns).length = ns.length := List.length_map ..
  have lcs : (namesD cs).length = cs.length := List.length_map ..
  refine dr_seqD (k1 := 1) (k2 := 54) (P := fun c => ∃ ks : List Str, ks.length = n ∧ ks.Nodup ∧ (∀ z ∈ ks, NameOk z) ∧ c = .nx [some .st, some (.int 3), some (.int 8), some (.int 100), some (.int 9), some (.lst (namesD ns)), some (.int n), some (.lst (ss.map D.int)), none, some (.lst (namesD ks)), none]) ?_ ?_ (by decide)
  · refine dr_cif (k1 := 1) (k2 := 0) (B := fun t => t = true → n ≤ ns.length) ?_ (fun hb => ?_) (fun _ => ?_) (by decide)
    · unfold tAnd'
      refine Dr.bind (k1 := 1) (k2 := 0) (P := fun _ => True) ?_ (fun t _ => ?_) (by decide)
      · unfold tB'
        refine Dr.bind (k1 := 1) (k2 := 0) (P := fun x => ∃ b, x = .bl b) (dr_binR (dr_next (n := 3) (by decide) (by decide) ev_c rfl) ev_c fun x ⟨i, e, _⟩ => ?_) (fun x ⟨b, e⟩ => ?_) (by decide)
        · subst e
          exact ⟨_, dEq_int _ _, _, rfl⟩
        · subst e
          exact Dr.pure trivial
      · cases t with
        | false => exact Dr.pure fun e => nomatch e
        | true =>
          refine dr_eq (x := decide ((n : Int) ≤ (ns.length : Int))) (ev_tB (ev_bin (x := .int ns.length) (ev_un (ev_var rfl) ?_) (ev_var rfl) rfl)) fun e => ?_
          · show pure (D.int (namesD ns).length) = _
            rw [lns]
          · have := of_decide_eq_true e
            omega
    · have hn := hb rfl
      refine dr_eq (st_set (x := .lst (namesD (ns.reverse.take n))) (ev_sl (ev_un (ev_var rfl) (rev_names ns)) ev_oNone (ev_oSome (ev_var rfl)) (cut_names _ _ (by rw [List.length_reverse]; exact hn)))) ⟨ns.reverse.take n, ?_, ?_, ?_, rfl⟩
      · rw [List.length_take, List.length_reverse]; omega
      · exact ((List.reverse_perm ns).nodup_iff.mpr nd).sublist (List.take_sublist ..)
      · intro z hz
        exact nk z (List.mem_reverse.mp (List.mem_of_mem_take hz))
    · exact dr_eq st_nx ⟨cs, cl, cd, ck, rfl⟩
  intro c ⟨ks, kl, kd, kk, e⟩
  refine ⟨_, e, ?_⟩
  have zl : (ks.zip ss).length = n := by rw [List.length_zip]; omega
  have zm : (ks.zip ss).map (·.1) = ks := by
    rw [List.map_fst_zip]
    omega
  refine dr_seq (st_set (x := .lst (beamsD (ks.zip ss))) (by
    rw [← tups_beams]
    exact ev_zip (ev_cons (ev_var rfl) (ev_cons (ev_var rfl) ev_nil)) (by unfold namesD; rw [List.length_map, List.length_map]; omega))) ?_
  obtain ⟨li, hli, hle, htu⟩ : ∃ li : Int, (li = if n = 1 then 9 else if n = 2 then 4 else 2) ∧ li ≤ 9 ∧ ∀ l : Int, 0 ≤ l → l ≤ li → (2 * l + 1) ^ n ≤ 400 := by
    refine ⟨_, rfl, by split <;> (try split) <;> omega, fun l l0 l1 => ?_⟩
    have nc : n = 1 ∨ n = 2 ∨ n = 3 := by omega
    rcases nc with e | e | e <;> subst e
    · have l3 : l ≤ 9 := l1
      have hc : l = 0 ∨ l = 1 ∨ l = 2 ∨ l = 3 ∨ l = 4 ∨ l = 5 ∨ l = 6 ∨ l = 7 ∨ l = 8 ∨ l = 9 := by omega
      rcases hc with e | e | e | e | e | e | e | e | e | e <;> subst e <;> decide
    · have l3 : l ≤ 4 := l1
      have hc : l = 0 ∨ l = 1 ∨ l = 2 ∨ l = 3 ∨ l = 4 := by omega
      rcases hc with e | e | e | e | e <;> subst e <;> decide
    · have l3 : l ≤ 2 := l1
      have hc : l = 0 ∨ l = 1 ∨ l = 2 := by omega
      rcases hc with e | e | e <;> subst e <;> decide
  refine dr_ret ?_
  refine dr_tup (A := fun xs => ∃ m l : Int, 1 ≤ m ∧ m ≤ 100 ∧ 0 ≤ l ∧ l ≤ li ∧ xs = [.lst (namesD ns), .lst (beamsD (ks.zip ss)), .int m, .int l]) ?_ (fun xs ⟨m, l, m1, m2, l1, l2, e⟩ => ?_)
  · refine dr_consP (ev_var rfl) (dr_consP (ev_var rfl) (dr_cons (k1 := 1) (k2 := 1) (P1 := fun x => ∃ m : Int, 1 ≤ m ∧ m ≤ 100 ∧ x = .int m) (A2 := fun xs => ∃ l : Int, 0 ≤ l ∧ l ≤ li ∧ xs = [.int l]) (A := fun xs => ∃ m l : Int, 1 ≤ m ∧ m ≤ 100 ∧ 0 ≤ l ∧ l ≤ li ∧ xs = [.int m, .int l]) ?_ (fun _ _ => ?_) (fun x xs ⟨m, m1, m2, e⟩ ⟨l, l1, l2, e2⟩ => ⟨m, l, m1, m2, l1, l2, by rw [e, e2]⟩) (by decide)) (A := fun xs => ∃ m l : Int, 1 ≤ m ∧ m ≤ 100 ∧ 0 ≤ l ∧ l ≤ li ∧ xs = [.lst (beamsD (ks.zip ss)), .int m, .int l]) (fun xs ⟨m, l, m1, m2, l1, l2, e⟩ => ⟨m, l, m1, m2, l1, l2, by rw [e]⟩)) (fun xs ⟨m, l, m1, m2, l1, l2, e⟩ => ⟨m, l, m1, m2, l1, l2, by rw [e]⟩)
    · refine dr_binL ev_c (dr_next (n := 100) (by decide) (by decide) (ev_var rfl) rfl) fun x ⟨i, e, i0, i1⟩ => ?_
      subst e
      exact ⟨_, dAdd_int _ _, _, by omega, by omega, rfl⟩
    · refine dr_cons (k1 := 1) (k2 := 0) (A2 := fun xs => xs = []) (dr_next (n := 1 + li) (by rw [hli]; split <;> (try split) <;> omega) (by omega) (ev_bin ev_c (y := .int li) (ev_bin (y := .int li) (ev_var rfl) (ev_bin (ev_lst (ev_cons ev_c (ev_cons ev_c (ev_cons ev_c ev_nil))) rfl) (ev_bin (ev_var rfl) ev_c (dSub_int _ _)) ?_) ?_) (dAdd_int _ _)) rfl) (fun _ _ => dr_nil rfl) (fun x xs ⟨i, e, i0, i1⟩ e2 => ⟨i, i0, by omega, by rw [e, e2]⟩) (by decide)
      · have nc : n = 1 ∨ n = 2 ∨ n = 3 := by omega
        rcases nc with e | e | e <;> subst e <;> subst hli <;> rfl
      · show pure (D.int (if li < 9 then li else 9)) = _
        rw [hli]
        split
        · rfl
        · split <;> rfl
  · subst e
    refine ⟨rfl, ⟨ns, ks.zip ss, m, l⟩, ⟨n1, n8, nk, nd, by show 1 ≤ (ks.zip ss).length; omega, by show (ks.zip ss).length ≤ 3; omega, fun p hp => ?_, ?_, fun p hp => ?_, m1, m2, l1, by show l ≤ 9; omega, ?_⟩, rfl⟩
    · exact kk p.1 (List.of_mem_zip (show (p.1, p.2) ∈ ks.zip ss from hp)).1
    · show ((ks.zip ss).map (·.1)).Nodup
      rw [zm]; exact kd
    · exact sk p.2 (List.of_mem_zip (show (p.1, p.2) ∈ ks.zip ss from hp)).2
    · show (2 * l + 1) ^ (ks.zip ss).length ≤ 400
      rw [zl]
      exact htu l l1 l2
/-! ### weighings -/
theorem pans_mem {ns : List Str} {x : D} (h : x ∈ (D.non :: namesD ns)) : ∃ p : Option Str, x = panD p ∧ ∀ z, p = some z → z ∈ ns := by
  rcases List.mem_cons.mp h with e | e
  · exact ⟨none, e, fun _ e => nomatch e⟩
  · obtain ⟨z, hz, rfl⟩ := List.mem_map.mp e
    exact ⟨some z, rfl, fun w e => by injection e with e; rw [← e]; exact hz⟩
theorem pans_map (ns : List Str) : (D.non :: namesD ns) = (none :: ns.map some).map panD := by
  unfold namesD
  rw [List.map_cons, List.map_map]; rfl
theorem dAdd_pans {ns : List Str} (h : ns.length ≤ 8) : dAdd (.lst [.non]) (.lst (namesD ns)) = pure (.lst (D.non :: namesD ns)) := by
  have hz : (1000 : Nat) ≤ sizeLine := by decide
  show guardB (decide (([D.non] : List D).length + (namesD ns).length ≤ sizeLine)) (pure (D.lst ([.non] ++ namesD ns))) = _
  rw [guard_of (decide_eq_true (by unfold namesD; rw [List.length_map]; simp; omega))]
  rfl
end Cm
end
section
set_option Elab.async false
set_option linter.all false
set_option maxRecDepth 100000
set_option maxHeartbeats 400000
/-! what is drawn: worlds, tries, worlds near -/
namespace Cm
open PySem PySem.Spec PyProof.Rows L2 Mir
/-- drawn pairs: a name, a number -/
theorem f2_pairs {α : Type} {key : α → Str} {lo hi : Int} {xs : List α} {zs : List D} (h : F2 (fun x z => ∃ i : Int, z = .tup [.str (key x), .int i] ∧ lo ≤ i ∧ i ≤ hi) xs zs) : ∃ l : List (Str × Int), zs = beamsD l ∧ l.map (·.1) = xs.map key ∧ ∀ p ∈ l, lo ≤ p.2 ∧ p.2 ≤ hi := by
  induction h with
  | nil => exact ⟨[], rfl, rfl, fun _ h => nomatch h⟩
  | @cons x z xs zs p _ ih =>
    obtain ⟨l, e1, e2, e3⟩ := ih
    obtain ⟨i, f1, f2, f3⟩ := p
    refine ⟨(key x, i) :: l, by rw [e1, f1]; rfl, by rw [List.map_cons, List.map_cons, e2], fun q hq => ?_⟩
    rcases List.mem_cons.mp hq with e | e
    · rw [e]; exact ⟨f2, f3⟩
    · exact e3 q e
theorem fn_range {l : List (Str × Int)} {ks : List Str} {lo hi : Int} (hk : l.map (·.1) = ks) (nd : ks.Nodup) (h : ∀ p ∈ l, lo ≤ p.2 ∧ p.2 ≤ hi) : ∀ k ∈ ks, lo ≤ fnOf l k ∧ fnOf l k ≤ hi := fun k hk' => by
  subst hk
  obtain ⟨p, hp, rfl⟩ := List.mem_map.mp hk'
  rw [fnOf_mem nd hp]
  exact h p hp
theorem world_dr {y : Yd} (o : YdOk y) : Dr 20 (m__law_world [.st, rowD y]) fun x => ∃ w : Wd, WdOk y w ∧ x = wdD w := by
  have hz : (1000 : Nat) ≤ sizeLine := by decide
  have n8 := o.n8
  have b3 := o.b3
  have m1 := o.m1
  have m2 := o.m2
  have l1 := o.l1
  have l2 := o.l2
  refine dr_def ?_
  refine dr_set (k1 := 8) (k2 := 12) (P := fun x => ∃ f : Str → Int, x = .dic (dOf y.ns f) ∧ ∀ k ∈ y.ns, 1 ≤ f k ∧ f k ≤ y.mo) ?_ ?_ (by decide)
  · refine dr_un (P1 := fun x => ∃ l : List (Str × Int), x = .lst (beamsD l) ∧ l.map (·.1) = y.ns ∧ ∀ p ∈ l, 1 ≤ p.2 ∧ p.2 ≤ y.mo) ?_ (fun x ⟨l, e, hk, hl⟩ => ?_)
    · refine dr_lc (k1 := 0) (k2 := 8) (A := fun ys => ys = namesD y.ns) (B := fun ys => ∃ l : List (Str × Int), ys = beamsD l ∧ l.map (·.1) = y.ns ∧ ∀ p ∈ l, 1 ≤ p.2 ∧ p.2 ≤ y.mo) (dr_eq (ev_iOn (ev_bin (ev_var rfl) ev_c rfl) rfl) rfl) ?_ (fun ys ⟨l, e, r⟩ => ⟨l, by rw [e], r⟩) (by decide)
      intro ds e
      subst e
      refine (lc_drT (k := 1) D.str (fun x z => ∃ i : Int, z = .tup [.str x, .int i] ∧ 1 ≤ i ∧ i ≤ y.mo) y.ns [] (fun x hx => ⟨_, rfl, dr_tup (A := fun xs => ∃ i : Int, xs = [.str x, .int i] ∧ 1 ≤ i ∧ i ≤ y.mo) (dr_consP (ev_var rfl) (dr_cons (k1 := 1) (k2 := 0) (P1 := fun z => ∃ i : Int, z = .int i ∧ 1 ≤ i ∧ i ≤ y.mo) (A2 := fun xs => xs = []) (A := fun xs => ∃ i : Int, xs = [.int i] ∧ 1 ≤ i ∧ i ≤ y.mo) (dr_binL ev_c (dr_next (n := y.mo) (by omega) (by omega) (ev_bin (x := rowD y) (ev_var rfl) ev_c rfl) rfl) fun z ⟨i, e, i0, i1⟩ => ?_) (fun _ _ => dr_nil rfl) (fun z xs ⟨i, e, r⟩ e2 => ⟨i, by rw [e, e2], r⟩) (by decide)) (fun xs ⟨i, e, r⟩ => ⟨i, by rw [e], r⟩)) (fun xs ⟨i, e, r⟩ => by subst e; exact ⟨rfl, i, rfl, r⟩)⟩) (by simp; omega)).imp (by omega) fun ys ⟨zs, e1, e2⟩ => ?_
      · subst e
        exact ⟨_, dAdd_int _ _, _, rfl, by omega, by omega⟩
      · obtain ⟨l, f1, f2, f3⟩ := f2_pairs (key := id) e2
        exact ⟨l, by rw [e1, f1, List.nil_append], by rw [f2, List.map_id], f3⟩
    · subst e
      have nd : (l.map (·.1)).Nodup := by rw [hk]; exact o.nd
      refine ⟨_, dict_beams nd, fnOf l, by rw [hk], fn_range hk o.nd hl⟩
  intro x ⟨f, e, hf⟩
  subst e
  refine dr_ret (dr_tup (A := fun xs => ∃ g : Str → Int, xs = [.dic (dOf y.ns f), .dic (dOf y.bn g)] ∧ ∀ k ∈ y.bn, -y.le ≤ g k ∧ g k ≤ y.le) (dr_consP (ev_var rfl) (dr_cons (k1 := 3) (k2 := 0) (P1 := fun x => ∃ g : Str → Int, x = .dic (dOf y.bn g) ∧ ∀ k ∈ y.bn, -y.le ≤ g k ∧ g k ≤ y.le) (A2 := fun xs => xs = []) (A := fun xs => ∃ g : Str → Int, xs = [.dic (dOf y.bn g)] ∧ ∀ k ∈ y.bn, -y.le ≤ g k ∧ g k ≤ y.le) ?_ (fun _ _ => dr_nil rfl) (fun z xs ⟨i, e, r⟩ e2 => ⟨i, by rw [e, e2], r⟩) (by decide)) (fun xs ⟨i, e, r⟩ => ⟨i, by rw [e], r⟩)) (fun xs ⟨g, e, hg⟩ => by
    subst e
    exact ⟨rfl, ⟨y.ns, f, y.bn, g⟩, ⟨List.Perm.refl _, List.Perm.refl _, hf, hg⟩, rfl⟩))
  refine dr_un (P1 := fun x => ∃ l : List (Str × Int), x = .lst (beamsD l) ∧ l.map (·.1) = y.bn ∧ ∀ p ∈ l, -y.le ≤ p.2 ∧ p.2 ≤ y.le) ?_ (fun x ⟨l, e, hk, hl⟩ => ?_)
  · refine dr_lc (k1 := 0) (k2 := 3) (A := fun ys => ys = beamsD y.bs) (B := fun ys => ∃ l : List (Str × Int), ys = beamsD l ∧ l.map (·.1) = y.bn ∧ ∀ p ∈ l, -y.le ≤ p.2 ∧ p.2 ≤ y.le) (dr_eq (ev_iOn (ev_bin (ev_var rfl) ev_c rfl) rfl) rfl) ?_ (fun ys ⟨l, e, r⟩ => ⟨l, by rw [e], r⟩) (by decide)
    intro ds e
    subst e
    refine (lc_drT (k := 1) beamD (fun x z => ∃ i : Int, z = .tup [.str x.1, .int i] ∧ -y.le ≤ i ∧ i ≤ y.le) y.bs [] (fun x hx => ⟨_, rfl, dr_tup (A := fun xs => ∃ i : Int, xs = [.str x.1, .int i] ∧ -y.le ≤ i ∧ i ≤ y.le) (dr_consP (ev_var rfl) (dr_cons (k1 := 1) (k2 := 0) (P1 := fun z => ∃ i : Int, z = .int i ∧ -y.le ≤ i ∧ i ≤ y.le) (A2 := fun xs => xs = []) (A := fun xs => ∃ i : Int, xs = [.int i] ∧ -y.le ≤ i ∧ i ≤ y.le) (dr_binR (dr_next (n := 2 * y.le + 1) (by omega) (by omega) (ev_bin (ev_bin ev_c (ev_bin (x := rowD y) (ev_var rfl) ev_c rfl) (dMul_int (by decide))) ev_c (dAdd_int _ _)) rfl) (ev_bin (x := rowD y) (ev_var rfl) ev_c rfl) fun z ⟨i, e, i0, i1⟩ => ?_) (fun _ _ => dr_nil rfl) (fun z xs ⟨i, e, r⟩ e2 => ⟨i, by rw [e, e2], r⟩) (by decide)) (fun xs ⟨i, e, r⟩ => ⟨i, by rw [e], r⟩)) (fun xs ⟨i, e, r⟩ => by subst e; exact ⟨rfl, i, rfl, r⟩)⟩) (by simp; omega)).imp (by omega) fun ys ⟨zs, e1, e2⟩ => ?_
    · subst e
      exact ⟨_, dSub_int _ _, _, rfl, by omega, by omega⟩
    · obtain ⟨l, f1, f2, f3⟩ := f2_pairs (key := fun x : Str × Int => x.1) e2
      exact ⟨l, by rw [e1, f1, List.nil_append], f2, f3⟩
  · subst e
    have nd : (l.map (·.1)).Nodup := by rw [hk]; exact o.bd
    refine ⟨_, dict_beams nd, fnOf l, by rw [hk], fn_range hk o.bd hl⟩
theorem at_map {α : Type} (φ : α → D) (l : List α) (i : Nat) (h : i < l.length) : dAt (.lst (l.map φ)) (.int i) = pure (φ l[i]) := by
  show (match atI (l.map φ) (i : Int) with
    | some z => pure z
    | none => bad : M D) = _
  rw [atI_nat (show (l.map φ)[i]? = some (φ l[i]) by rw [List.getElem?_map, List.getElem?_eq_getElem h]; rfl)]
/-! ### a world near -/
theorem WdOk.updF {y : Yd} {w : Wd} (h : WdOk y w) {k : Str} {v : Int} (h1 : 1 ≤ v) (h2 : v ≤ y.mo) : WdOk y { w with f := updF w.f k v } :=
  ⟨h.kp, h.bp, fun x hx => by
    show 1 ≤ Cm.updF w.f k v x ∧ Cm.updF w.f k v x ≤ y.mo
    unfold Cm.updF
    split
    · exact ⟨h1, h2⟩
    · exact h.f x hx, h.g⟩
theorem WdOk.updG {y : Yd} {w : Wd} (h : WdOk y w) {k : Str} {v : Int} (h1 : -y.le ≤ v) (h2 : v ≤ y.le) : WdOk y { w with g := Cm.updF w.g k v } :=
  ⟨h.kp, h.bp, h.f, fun x hx => by
    show -y.le ≤ Cm.updF w.g k v x ∧ Cm.updF w.g k v x ≤ y.le
    unfold Cm.updF
    split
    · exact ⟨h1, h2⟩
    · exact h.g x hx⟩
end Cm
end
section
set_option Elab.async false
set_option linter.all false
set_option maxRecDepth 100000
set_option maxHeartbeats 400000
/-! marks, ways of one beam, in plain numbers -/
namespace Cm
open PySem PySem.Spec PyProof.Rows L2 Mir
/-- how a total stands to a step -/
def markOf (t s : Int) : Int × Bool := (t / s, decide (t % s = 0))
theorem wordOf_pos {t : Int} (h : 0 < t) : wordOf t = "left" := by unfold wordOf; rw [if_neg (by omega), if_pos h]
theorem wordOf_zero {t : Int} (h : t = 0) : wordOf t = "even" := by unfold wordOf; rw [if_pos h]
theorem wordOf_neg {t : Int} (h : t < 0) : wordOf t = "right" := by unfold wordOf; rw [if_neg (by omega), if_neg (by omega)]
theorem wordOf_iff (u v : Int) : wordOf u = wordOf v ↔ ((0 < u ↔ 0 < v) ∧ (u = 0 ↔ v = 0)) := by
  have n1 : ("even" : Str) ≠ "left" := by decide +kernel
  have n2 : ("right" : Str) ≠ "left" := by decide +kernel
  have n3 : ("right" : Str) ≠ "even" := by decide +kernel
  rcases Int.lt_trichotomy u 0 with a | a | a <;> rcases Int.lt_trichotomy v 0 with b | b | b
  · rw [wordOf_neg a, wordOf_neg b]; exact ⟨fun _ => ⟨⟨fun _ => by omega, fun _ => by omega⟩, ⟨fun _ => by omega, fun _ => by omega⟩⟩, fun _ => rfl⟩
  · rw [wordOf_neg a, wordOf_zero b]; exact ⟨fun h => absurd h n3, fun h => by omega⟩
  · rw [wordOf_neg a, wordOf_pos b]; exact ⟨fun h => absurd h n2, fun h => by omega⟩
  · rw [wordOf_zero a, wordOf_neg b]; exact ⟨fun h => absurd h.symm n3, fun h => by omega⟩
  · rw [wordOf_zero a, wordOf_zero b]; exact ⟨fun _ => ⟨⟨fun _ => by omega, fun _ => by omega⟩, ⟨fun _ => b, fun _ => a⟩⟩, fun _ => rfl⟩
  · rw [wordOf_zero a, wordOf_pos b]; exact ⟨fun h => absurd h n1, fun h => by omega⟩
  · rw [wordOf_pos a, wordOf_neg b]; exact ⟨fun h => absurd h.symm n2, fun h => by omega⟩
  · rw [wordOf_pos a, wordOf_zero b]; exact ⟨fun h => absurd h.symm n1, fun h => by omega⟩
  · rw [wordOf_pos a, wordOf_pos b]; exact ⟨fun _ => ⟨⟨fun _ => b, fun _ => a⟩, ⟨fun _ => by omega, fun _ => by omega⟩⟩, fun _ => rfl⟩
/-- alike marks: the same word at each shift by steps -/
theorem mark_words {t1 t2 s c : Int} (h1 : 0 < s) (h5 : s ≤ 5) (h : markOf t1 s = markOf t2 s) : wordOf (t1 + s * c) = wordOf (t2 + s * c) := by
  unfold markOf at h
  injection h with ha hb
  have hb : (t1 % s = 0) ↔ (t2 % s = 0) := decide_eq_decide.mp hb
  rw [wordOf_iff]
  have hs : s = 1 ∨ s = 2 ∨ s = 3 ∨ s = 4 ∨ s = 5 := by omega
  rcases hs with e | e | e | e | e <;> subst e <;> constructor <;> constructor <;> intro <;> omega
/-- the shift that a word makes -/
def nextS (t sh s : Int) : Int := sh + tiW (wordOf (t + sh)) s
theorem nextS_pos {t sh s : Int} (h : 0 < t + sh) : nextS t sh s = sh - s := by
  unfold nextS wordOf tiW
  rw [if_neg (show ¬ t + sh = 0 by omega), if_pos h, if_pos rfl]
  omega
theorem nextS_zero {t sh s : Int} (h : t + sh = 0) : nextS t sh s = sh := by
  have n1 : ("even" : Str) ≠ "left" := by decide +kernel
  unfold nextS wordOf tiW
  rw [if_pos h, if_neg n1, if_pos rfl]
  omega
theorem nextS_neg {t sh s : Int} (h : t + sh < 0) : nextS t sh s = sh + s := by
  have n2 : ("right" : Str) ≠ "left" := by decide +kernel
  have n3 : ("right" : Str) ≠ "even" := by decide +kernel
  unfold nextS wordOf tiW
  rw [if_neg (show ¬ t + sh = 0 by omega), if_neg (show ¬ 0 < t + sh by omega), if_neg n2, if_neg n3]
theorem mark_shift {t1 t2 s c : Int} (h1 : 0 < s) (h5 : s ≤ 5) (h : markOf (t1 + s * c) s = markOf (t2 + s * c) s) : markOf t1 s = markOf t2 s := by
  unfold markOf at h ⊢
  injection h with ha hb
  have hb : ((t1 + s * c) % s = 0) ↔ ((t2 + s * c) % s = 0) := decide_eq_decide.mp hb
  have hs : s = 1 ∨ s = 2 ∨ s = 3 ∨ s = 4 ∨ s = 5 := by omega
  rcases hs with e | e | e | e | e <;> subst e <;> (congr 1; · omega) <;> (exact decide_eq_decide.mpr (by omega))
/-- all that is reached tells alike: the marks are alike -/
theorem marks_of_closed {t1 t2 s : Int} (h1 : 0 < s) (h5 : s ≤ 5) (R : Int → Prop) (hw : ∀ x, R x → wordOf (t1 + x) = wordOf (t2 + x)) (hn : ∀ x, R x → R (nextS t1 x s)) : ∀ (n : Nat) (c : Int), R (s * c) → (t1 + s * c).natAbs ≤ n → markOf (t1 + s * c) s = markOf (t2 + s * c) s
  | 0, c, r, hb => by
    have e := (wordOf_iff _ _).mp (hw _ r)
    have a : t1 + s * c = 0 := by omega
    have b : t2 + s * c = 0 := e.2.mp a
    rw [a, b]
  | n + 1, c, r, hb => by
    have e := (wordOf_iff _ _).mp (hw _ r)
    have rn := hn _ r
    by_cases p : 0 < t1 + s * c
    · rw [nextS_pos p] at rn
      have q : s * c - s = s * (c - 1) := by rw [Int.mul_sub, Int.mul_one]
      rw [q] at rn
      have e2 := (wordOf_iff _ _).mp (hw _ rn)
      rw [← q] at e2
      by_cases z : 0 ≤ t1 + s * c - s
      · have ih := marks_of_closed h1 h5 R hw hn n (c - 1) rn (by rw [← q]; omega)
        rw [← q] at ih
        refine mark_shift (c := -1) h1 h5 ?_
        have : s * (-1 : Int) = -s := by omega
        rw [this]
        have f1 : t1 + s * c + -s = t1 + (s * c - s) := by omega
        have f2 : t2 + s * c + -s = t2 + (s * c - s) := by omega
        rw [f1, f2]
        exact ih
      · generalize s * c = y at *
        unfold markOf
        have hs : s = 1 ∨ s = 2 ∨ s = 3 ∨ s = 4 ∨ s = 5 := by omega
        rcases hs with e | e | e | e | e <;> subst e <;> (congr 1; · omega) <;> (exact decide_eq_decide.mpr (by omega))
    · by_cases z0 : t1 + s * c = 0
      · have b : t2 + s * c = 0 := e.2.mp z0
        rw [z0, b]
      · have p' : t1 + s * c < 0 := by omega
        rw [nextS_neg p'] at rn
        have q : s * c + s = s * (c + 1) := by rw [Int.mul_add, Int.mul_one]
        rw [q] at rn
        have e2 := (wordOf_iff _ _).mp (hw _ rn)
        rw [← q] at e2
        by_cases z : t1 + s * c + s ≤ 0
        · have ih := marks_of_closed h1 h5 R hw hn n (c + 1) rn (by rw [← q]; omega)
          rw [← q] at ih
          refine mark_shift (c := 1) h1 h5 ?_
          have : s * (1 : Int) = s := by omega
          rw [this]
          have f1 : t1 + s * c + s = t1 + (s * c + s) := by omega
          have f2 : t2 + s * c + s = t2 + (s * c + s) := by omega
          rw [f1, f2]
          exact ih
        · generalize s * c = y at *
          unfold markOf
          have hs : s = 1 ∨ s = 2 ∨ s = 3 ∨ s = 4 ∨ s = 5 := by omega
          rcases hs with e | e | e | e | e <;> subst e <;> (congr 1; · omega) <;> (exact decide_eq_decide.mpr (by omega))
end Cm
end
section
set_option Elab.async false
set_option linter.all false
set_option maxRecDepth 100000
set_option maxHeartbeats 400000
/-! pans, weighings of a beam, totals, marks -/
namespace Cm
open PySem PySem.Spec PyProof.Rows L2 Mir
def pansO (y : Yd) : List (Option Str) := none :: y.ns.map some
theorem pansO_len {y : Yd} (o : YdOk y) : (pansO y).length ≤ 9 := by
  have := o.n8
  unfold pansO
  rw [List.length_cons, List.length_map]
  omega
theorem pansO_ok {y : Yd} {p : Option Str} (h : p ∈ pansO y) : PanOk y p := fun x e => by
  subst e
  rcases List.mem_cons.mp h with e | e
  · cases e
  · obtain ⟨z, hz, e2⟩ := List.mem_map.mp e
    cases e2
    exact hz
theorem pans_eq {y : Yd} (o : YdOk y) : m_pans [courtD y] = pure (.lst ((pansO y).map panD)) := by
  refine def_ret (st_ret ?_)
  have e : (pansO y).map panD = D.non :: namesD y.ns := (pans_map y.ns).symm
  rw [e]
  exact ev_bin (ev_lst (ev_cons ev_c ev_nil) rfl) (ev_things (ev_var rfl)) (dAdd_pans o.n8)
def rightsO (y : Yd) (l : Option Str) : List (Option Str) := (pansO y).filter fun r => decide (l = none) || !decide (l = r)
/-- all weighings at a beam -/
def wgsO (y : Yd) (b : Str) : List Wg := (pansO y).flatMap fun l => (rightsO y l).map fun r => ⟨b, l, r⟩
theorem rightsO_len {y : Yd} (o : YdOk y) (l : Option Str) : (rightsO y l).length ≤ 9 := Nat.le_trans (List.length_filter_le ..) (pansO_len o)
theorem flat_len {α β : Type} (f : α → List β) (k : Nat) (h : ∀ x, (f x).length ≤ k) : ∀ xs : List α, (xs.flatMap f).length ≤ xs.length * k
  | [] => by simp
  | x :: xs => by
    have := flat_len f k h xs
    have := h x
    rw [List.flatMap_cons, List.length_append, List.length_cons, Nat.add_mul, Nat.one_mul]
    omega
theorem wgsO_len {y : Yd} (o : YdOk y) (b : Str) : (wgsO y b).length ≤ 81 := by
  have h := flat_len (fun l => (rightsO y l).map fun r => (⟨b, l, r⟩ : Wg)) 9 (fun l => by rw [List.length_map]; exact rightsO_len o l) (pansO y)
  have := pansO_len o
  unfold wgsO
  omega
theorem wgsO_ok {y : Yd} {b : Str} (hb : b ∈ y.bn) {w : Wg} (h : w ∈ wgsO y b) : WgOk y w ∧ w.b = b := by
  obtain ⟨l, hl, h2⟩ := List.mem_flatMap.mp h
  obtain ⟨r, hr, rfl⟩ := List.mem_map.mp h2
  obtain ⟨h3, h4⟩ := List.mem_filter.mp hr
  refine ⟨⟨hb, pansO_ok hl, pansO_ok h3, ?_⟩, rfl⟩
  rw [Bool.or_eq_true] at h4
  rcases h4 with h4 | h4
  · exact .inl (of_decide_eq_true h4)
  · exact .inr fun e => by
      have e : l = r := e
      simp [e] at h4
/-- which pans may stand right of l -/
theorem right_test {y : Yd} (o : YdOk y) {env : Ev} {i j : Nat} {l r : Option Str} (hl : l ∈ pansO y) (hr : r ∈ pansO y) (h1 : env[i]? = some (some (panD l))) (h2 : env[j]? = some (some (panD r))) : tOr' (tB' (eBin (dIsN false) (eVar i) (eC .non))) (tB' (eBin dNe (eVar i) (eVar j))) env = pure (decide (l = none) || !decide (l = r)) :=
  ev_tOr (ev_tB (ev_bin (ev_var h1) ev_c (dIsN_pan l))) fun _ => ev_tB (ev_bin (ev_var h1) (ev_var h2) (dNe_pan l r ((pansO_ok hl).ok o) ((pansO_ok hr).ok o)))
theorem weighings_at_eq {y : Yd} (o : YdOk y) (b : Str) : m_weighings_at [courtD y, .str b] = pure (.lst ((wgsO y b).map wgD)) := by
  have hz : (1000 : Nat) ≤ sizeLine := by decide
  have pl := pansO_len o
  obtain ⟨e', h1, h2⟩ := for_foldT (tg := gN 3) (b := cExt 2 (eLc (iOn dIt (eCall 1 m_pans (aCons (eVar 0) aNil))) [4] (gN 4) (tOr' (tB' (eBin (dIsN false) (eVar 3) (eC .non))) (tB' (eBin dNe (eVar 3) (eVar 4)))) (eTup (aCons (eVar 1) (aCons (eVar 3) (aCons (eVar 4) aNil))))))
    panD (fun i (s : List Wg) env => s.length ≤ 9 * i ∧ ∃ a3 a4, env = [some (courtD y), some (.str b), some (.lst (s.map wgD)), a3, a4]) (fun s l => s ++ (rightsO y l).map fun r => (⟨b, l, r⟩ : Wg)) (pansO y) 0 [] [some (courtD y), some (.str b), some (.lst []), none, none] ⟨Nat.le_refl _, _, _, rfl⟩ fun l hl j s env hj hJ => by
      obtain ⟨hs, a3, a4, rfl⟩ := hJ
      have rl := rightsO_len o l
      refine ⟨[some (courtD y), some (.str b), some (.lst (s.map wgD)), some (panD l), a4], [some (courtD y), some (.str b), some (.lst ((s ++ (rightsO y l).map fun r => (⟨b, l, r⟩ : Wg)).map wgD)), some (panD l), a4], rfl, ?_, ?_, _, _, rfl⟩
      · unfold cExt
        rw [ev_lc (ev_iOn (ev_call (ev_cons (ev_var rfl) ev_nil) rfl (pans_eq o)) rfl) (lc_filterT panD (fun r => wgD ⟨b, l, r⟩) (fun r => decide (l = none) || !decide (l = r)) (pansO y) [] (fun r hr => ⟨_, rfl, right_test o hl hr rfl rfl, fun _ => ev_tup (ev_cons (ev_var rfl) (ev_cons (ev_var rfl) (ev_cons (x := panD r) (ev_var rfl) ev_nil))) rfl⟩) (by simp; omega)), pure_bind']
        show guardB (decide ((s.map wgD).length + _ ≤ sizeLine)) _ = _
        rw [guard_of (decide_eq_true (by
          rw [List.nil_append, List.length_map, List.length_map]
          have : ((pansO y).filter fun r => decide (l = none) || !decide (l = r)).length ≤ 9 := rl
          omega)), List.map_append, List.map_map]
        rfl
      · rw [List.length_append, List.length_map]
        omega
  obtain ⟨_, a3, a4, rfl⟩ := h2
  refine def_ret (st_seq (st_set (ev_lst ev_nil rfl)) (st_seq (st_for (ev_iOn (ev_call (ev_cons (ev_var rfl) ev_nil) rfl (pans_eq o)) rfl) h1) ?_))
  have e : ∀ (ls : List (Option Str)) (s : List Wg), ls.foldl (fun s l => s ++ (rightsO y l).map fun r => (⟨b, l, r⟩ : Wg)) s = s ++ ls.flatMap fun l => (rightsO y l).map fun r => (⟨b, l, r⟩ : Wg) := fun ls => by
    induction ls with
    | nil => exact fun s => (List.append_nil s).symm
    | cons l ls ih => exact fun s => by rw [List.foldl_cons, ih, List.flatMap_cons, List.append_assoc]
  rw [st_ret (ev_var rfl), e, List.nil_append]
  rfl
def Wd.tot (w : Wd) (v : Wg) : Int := w.wt v.l - w.wt v.r + w.g v.b
theorem st_asg {tg : Ev → D → Option Ev} {m : Ev → M D} {env e : Ev} {x : D} (h : m env = pure x) (ht : tg env x = some e) : cAsg tg m env = pure (.nx e) := by
  unfold cAsg
  rw [h, pure_bind', ht]
theorem total_at_eq {y : Yd} {w : Wd} (h : WdOk y w) {v : Wg} (hv : WgOk y v) : m_total_at [wdD w, wgD v] = pure (.int (w.tot v)) := by
  refine def_ret (st_seq (st_asg (x := wgD v) (ev_var rfl) rfl) (st_ret ?_))
  exact ev_bin (ev_bin (ev_call (ev_cons (x := wdD w) (ev_var rfl) (ev_cons (x := panD v.l) (ev_var rfl) ev_nil)) rfl (weight_eq h hv.l)) (ev_call (ev_cons (x := wdD w) (ev_var rfl) (ev_cons (x := panD v.r) (ev_var rfl) ev_nil)) rfl (weight_eq h hv.r)) (dSub_int _ _)) (ev_bin (ev_bin (x := wdD w) (ev_var rfl) ev_c rfl) (ev_var rfl) (dAt_dOf (h.bp.mem_iff.mpr hv.b))) (dAdd_int _ _)
theorem lk_m5 (y : Yd) : (fldsD y).lookup ("step" : Str) = none := by kernel_rfl
theorem step_eq {y : Yd} (o : YdOk y) {b : Str} (hb : b ∈ y.bn) : m_Yard_step [courtD y, .str b] = pure (.int (fnOf y.bs b)) := by
  refine def_ret (st_seq (st_drop (ev_call (ev_cons (ev_var rfl) (ev_cons (ev_var rfl) ev_nil)) rfl (need_beam_eq o hb))) (st_ret (ev_bin (ev_un (x := .plt (beamsD y.bs)) (ev_fld (ev_var rfl) (lk_beams y)) ?_) (ev_var rfl) (dAt_dOf hb))))
  exact dict_beams o.bd
theorem tot_small {y : Yd} (o : YdOk y) {w : Wd} (h : WdOk y w) {v : Wg} (hv : WgOk y v) : -109 ≤ w.tot v ∧ w.tot v ≤ 109 := by
  have m2 := o.m2
  have l2 := o.l2
  have a : ∀ p : Option Str, PanOk y p → 0 ≤ w.wt p ∧ w.wt p ≤ 100 := fun p hp => by
    cases p with
    | none => exact ⟨Int.le_refl 0, by show (0 : Int) ≤ 100; decide⟩
    | some x =>
      have := h.f x (hp x rfl)
      show 0 ≤ w.f x ∧ w.f x ≤ 100
      omega
  have a1 := a v.l hv.l
  have a2 := a v.r hv.r
  have a3 := h.g v.b hv.b
  unfold Wd.tot
  omega
end Cm
end
section
set_option Elab.async false
set_option linter.all false
set_option maxRecDepth 100000
set_option maxHeartbeats 400000
/-! the search at one beam -/
namespace Cm
open PySem PySem.Spec PyProof.Rows L2 Mir
/-- a way of weighings by which two totals tell alike, and the shift behind it -/
inductive Walk (t1 t2 : Wg → Int) (s : Int) (W : List Wg) : List Wg → Int → Prop
  | nil : Walk t1 t2 s W [] 0
  | snoc {p : List Wg} {x : Int} {w : Wg} : Walk t1 t2 s W p x → w ∈ W → wordOf (t1 w + x) = wordOf (t2 w + x) → Walk t1 t2 s W (p ++ [w]) (nextS (t1 w) x s)
section
variable {t1 t2 : Wg → Int} {s : Int} {W : List Wg}
theorem Walk.step {p : List Wg} {x : Int} (h : Walk t1 t2 s W p x) : ∃ c, x = s * c := by
  induction h with
  | nil => exact ⟨0, by simp⟩
  | @snoc p x w _ _ _ ih =>
    obtain ⟨c, rfl⟩ := ih
    by_cases a : 0 < t1 w + s * c
    · exact ⟨c - 1, by rw [nextS_pos a, Int.mul_sub, Int.mul_one]⟩
    · by_cases b : t1 w + s * c = 0
      · exact ⟨c, nextS_zero b⟩
      · exact ⟨c + 1, by rw [nextS_neg (by omega), Int.mul_add, Int.mul_one]⟩
theorem nextS_small {t x s : Int} (ht : -109 ≤ t ∧ t ≤ 109) (h1 : 0 < s) (h5 : s ≤ 5) (hx : -114 ≤ x ∧ x ≤ 114) : -114 ≤ nextS t x s ∧ nextS t x s ≤ 114 := by
  by_cases a : 0 < t + x
  · rw [nextS_pos a]; omega
  · by_cases b : t + x = 0
    · rw [nextS_zero b]; omega
    · rw [nextS_neg (by omega)]; omega
theorem Walk.small (ht : ∀ w ∈ W, -109 ≤ t1 w ∧ t1 w ≤ 109) (h1 : 0 < s) (h5 : s ≤ 5) {p : List Wg} {x : Int} (h : Walk t1 t2 s W p x) : -114 ≤ x ∧ x ≤ 114 := by
  induction h with
  | nil => exact ⟨by decide, by decide⟩
  | snoc _ hw _ ih => exact nextS_small (ht _ hw) h1 h5 ih
theorem Walk.mem {p : List Wg} {x : Int} (h : Walk t1 t2 s W p x) : ∀ w ∈ p, w ∈ W := by
  induction h with
  | nil => exact fun _ h => nomatch h
  | snoc _ hw _ ih =>
    intro v hv
    rcases List.mem_append.mp hv with e | e
    · exact ih v e
    · rw [List.mem_singleton.mp e]; exact hw
end
theorem nodup_le : ∀ (n : Nat) (l : List Nat), l.Nodup → (∀ x ∈ l, x < n) → l.length ≤ n
  | 0, l, _, h => by
    cases l with
    | nil => exact Nat.le_refl _
    | cons x l => exact absurd (h x (List.mem_cons_self ..)) (Nat.not_lt_zero _)
  | n + 1, l, nd, h => by
    have ih := nodup_le n (l.erase n) (nd.erase n) fun x hx => by
      have h1 := h x (List.mem_of_mem_erase hx)
      have h2 : x ≠ n := (nd.mem_erase_iff.mp hx).1
      omega
    by_cases hn : n ∈ l
    · rw [List.length_erase_of_mem hn] at ih
      omega
    · rw [List.erase_of_not_mem hn] at ih
      omega
/-- what is known: a way to each shift -/
abbrev Kn := List (Int × List Wg)
def knD (kn : Kn) : List (Key × D) := kn.map fun q => (.inl q.1, .lst (q.2.map wgD))
theorem knD_look {kn : Kn} (nd : (kn.map (·.1)).Nodup) {x : Int} {p : List Wg} (h : (x, p) ∈ kn) : lookD (knD kn) (.inl x) = some (.lst (p.map wgD)) := by
  induction kn with
  | nil => cases h
  | cons q kn ih =>
    rw [List.map_cons, List.nodup_cons] at nd
    unfold lookD knD
    rw [List.map_cons, List.find?_cons]
    rcases List.mem_cons.mp h with e | e
    · subst e
      simp
    · have ne : q.1 ≠ x := fun z => nd.1 (z ▸ List.mem_map.mpr ⟨(x, p), e, rfl⟩)
      have d : (decide ((Sum.inl q.1 : Key) = .inl x)) = false := by simp [ne]
      rw [d]
      exact ih nd.2 e
theorem knD_none {kn : Kn} {x : Int} (h : x ∉ kn.map (·.1)) : lookD (knD kn) (.inl x) = none := by
  unfold lookD knD
  rw [List.find?_eq_none.mpr]
  · rfl
  · intro p hp
    obtain ⟨q, hq, rfl⟩ := List.mem_map.mp hp
    simp
    intro e
    exact h (e ▸ List.mem_map.mpr ⟨q, hq, rfl⟩)
theorem knD_isSome {kn : Kn} (nd : (kn.map (·.1)).Nodup) (x : Int) : (lookD (knD kn) (.inl x)).isSome = decide (x ∈ kn.map (·.1)) := by
  by_cases h : x ∈ kn.map (·.1)
  · obtain ⟨⟨a, p⟩, hq, rfl⟩ := List.mem_map.mp h
    rw [knD_look nd hq, decide_eq_true h]
    rfl
  · rw [knD_none h, decide_eq_false h]
    rfl
theorem knD_put {kn : Kn} {x : Int} (h : x ∉ kn.map (·.1)) (p : List Wg) : putD (knD kn) (.inl x) (.lst (p.map wgD)) = knD (kn ++ [(x, p)]) := by
  rw [putD_new]
  · unfold knD
    rw [List.map_append]
    rfl
  · intro q hq e
    obtain ⟨z, hz, rfl⟩ := List.mem_map.mp hq
    injection e with e
    exact h (e ▸ List.mem_map.mpr ⟨z, hz, rfl⟩)
/-- the search's state -/
structure Sr (t1 t2 : Wg → Int) (s : Int) (W : List Wg) (kn : Kn) : Prop where
  nd : (kn.map (·.1)).Nodup
  wk : ∀ q ∈ kn, Walk t1 t2 s W q.2 q.1 ∧ q.2.length < kn.length
def Closed (t1 t2 : Wg → Int) (s : Int) (W : List Wg) (kn : Kn) (x : Int) : Prop := ∀ w ∈ W, wordOf (t1 w + x) = wordOf (t2 w + x) ∧ nextS (t1 w) x s ∈ kn.map (·.1)
section
variable {t1 t2 : Wg → Int} {s : Int} {W : List Wg} {kn : Kn}
theorem Sr.len (h : Sr t1 t2 s W kn) (ht : ∀ w ∈ W, -109 ≤ t1 w ∧ t1 w ≤ 109) (h1 : 0 < s) (h5 : s ≤ 5) : kn.length ≤ 229 := by
  have r : ∀ x ∈ kn.map (·.1), -114 ≤ x ∧ x ≤ 114 := fun x hx => by
    obtain ⟨q, hq, rfl⟩ := List.mem_map.mp hx
    exact (h.wk q hq).1.small ht h1 h5
  have nd2 : ((kn.map (·.1)).map fun x => (x + 114).toNat).Nodup := by
    unfold List.Nodup
    rw [List.pairwise_map]
    refine h.nd.imp_of_mem fun {a b} ha hb ne e => ne ?_
    have := r a ha
    have := r b hb
    omega
  have := nodup_le 229 _ nd2 fun x hx => by
    obtain ⟨a, ha, rfl⟩ := List.mem_map.mp hx
    have := r a ha
    omega
  rw [List.length_map, List.length_map] at this
  exact this
theorem Sr.more (h : Sr t1 t2 s W kn) {x : Int} {p : List Wg} {w : Wg} (hp : (x, p) ∈ kn) (hw : w ∈ W) (e : wordOf (t1 w + x) = wordOf (t2 w + x)) (hn : nextS (t1 w) x s ∉ kn.map (·.1)) : Sr t1 t2 s W (kn ++ [(nextS (t1 w) x s, p ++ [w])]) where
  nd := by
    rw [List.map_append, List.nodup_append]
    refine ⟨h.nd, by simp, fun a ha b hb => ?_⟩
    rw [List.mem_singleton.mp hb]
    intro z
    have z : a = nextS (t1 w) x s := z
    rw [z] at ha
    exact hn ha
  wk := fun q hq => by
    rw [List.length_append]
    rcases List.mem_append.mp hq with m | m
    · exact ⟨(h.wk q m).1, by have := (h.wk q m).2; simp; omega⟩
    · rw [List.mem_singleton.mp m]
      have k := h.wk _ hp
      refine ⟨.snoc k.1 hw e, ?_⟩
      have := k.2
      simp only [List.length_append, List.length_cons, List.length_nil] at this ⊢
      omega
theorem Closed.more {x : Int} {q : Int × List Wg} (h : Closed t1 t2 s W kn x) : Closed t1 t2 s W (kn ++ [q]) x := fun w hw => ⟨(h w hw).1, by
  rw [List.map_append]
  exact List.mem_append_left _ (h w hw).2⟩
end
/-- a loop that may hand back -/
theorem for_brT {α : Type} {tg : Ev → D → Option Ev} {b : Ev → M Ctl} (φ : α → D) (J : List α → Ev → Prop) (R : D → Prop) : ∀ (xs done : List α) (env : Ev), J done env →
    (∀ x ∈ xs, ∀ done env, J done env → ∃ e, tg env (φ x) = some e ∧ ((∃ e', b e = pure (.nx e') ∧ J (done ++ [x]) e') ∨ ∃ v, b e = pure (.ret v) ∧ R v)) →
    (∃ e', forGo tg b (xs.map φ) env = pure (.nx e') ∧ J (done ++ xs) e') ∨ ∃ v, forGo tg b (xs.map φ) env = pure (.ret v) ∧ R v
  | [], done, env, h, _ => .inl ⟨env, rfl, by rw [List.append_nil]; exact h⟩
  | x :: xs, done, env, h, hb => by
    obtain ⟨e, h1, h2⟩ := hb x (List.mem_cons_self ..) done env h
    rw [List.map_cons]
    simp only [forGo, h1]
    rcases h2 with ⟨e', h3, h4⟩ | ⟨v, h3, h4⟩
    · rw [h3, pure_bind']
      have := for_brT φ J R xs (done ++ [x]) e' h4 fun y hy => hb y (List.mem_cons_of_mem _ hy)
      rw [List.append_assoc] at this
      exact this
    · rw [h3, pure_bind']
      exact .inr ⟨v, rfl, h4⟩
theorem eqvAll_nil : ∀ ps : List PyData, PyData.eqvAll ps [] = decide (ps = [])
  | [] => rfl
  | p :: ps => rfl
theorem toPys_ints : ∀ l : List Int, toPys (l.map D.int) = some (l.map PyData.int)
  | [] => rfl
  | x :: l => by rw [List.map_cons]; simp only [toPys, toPy, toPys_ints l, List.map_cons]
theorem dNe_line (l : List Int) : dNe (.lst (l.map D.int)) (.lst []) = pure (.bl (!decide (l = []))) := by
  have s1 : SeqAt.shaped (.list (l.map PyData.int)) = true := shaped_ints l
  have s2 : SeqAt.shaped (.list ([] : List PyData)) = true := shaped_ints []
  have e := dEqB_P (neg := true) (x := .lst (l.map D.int)) (y := .lst []) rfl
  have e2 := dEqP_val (neg := true) (x := .lst (l.map D.int)) (y := .lst []) (p := .list (l.map PyData.int)) (q := .list []) (by simp only [toPy, toPys_ints, Option.map_some]) rfl s1 s2
  rw [dNe, e, e2]
  simp only [PyData.eqv, eqvAll_nil]
  cases l <;> simp
end Cm
end
section
set_option Elab.async false
set_option linter.all false
set_option maxRecDepth 100000
set_option maxHeartbeats 400000
/-! the search at one beam, as the program makes it -/
namespace Cm
open PySem PySem.Spec PyProof.Rows L2 Mir
def optD : Option (List Wg) → D
  | none => .non
  | some p => .lst (p.map wgD)
/-- a way that parts two worlds at the beam b -/
def Parts (y : Yd) (e n : Wd) (b : Str) (p : List Wg) : Prop := ∃ (q : List Wg) (x : Int) (w : Wg), p = q ++ [w] ∧ Walk e.tot n.tot (fnOf y.bs b) (wgsO y b) q x ∧ w ∈ wgsO y b ∧ wordOf (e.tot w + x) ≠ wordOf (n.tot w + x) ∧ q.length ≤ 229
def totD (e n : Wd) (w : Wg) : D := .tup [wgD w, .int (e.tot w), .int (n.tot w)]
abbrev paW : Ev → M Bool := tB' (eBin dNe (eVar 10) (eLst aNil))
abbrev paI : Ev → M Ctl := cSeq (cSet 14 (eCall 1 m_word_of (aCons (eBin dAdd (eVar 12) (eVar 11)) aNil))) (cSeq (cIf (tB' (eBin dNe (eVar 14) (eCall 1 m_word_of (aCons (eBin dAdd (eVar 13) (eVar 11)) aNil)))) (cRet (eBin dCat (eBin dAt (eVar 9) (eVar 11)) (eLst (aCons (eVar 8) aNil)))) cNx) (cSeq (cSet 15 (eBin dAdd (eVar 11) (eCall 2 m_tired (aCons (eVar 14) (aCons (eVar 6) aNil))))) (cIf (tB' (eBin dNin (eVar 15) (eVar 9))) (cSeq (cSetD 9 (eVar 15) (eBin dAdd (eBin dAt (eVar 9) (eVar 11)) (eLst (aCons (eVar 8) aNil)))) (cApp 10 (eVar 15))) cNx)))
abbrev paB : Ev → M Ctl := cSeq (cPop0 11 10) (cFor (iOn dIt (eVar 7)) (gT (gsCons (gN 8) (gsCons (gN 12) (gsCons (gN 13) gsNil)))) paI)
section
variable {y : Yd} {e n : Wd} {b : Str}
/-- what stands in the def's slots -/
abbrev pEnv (y : Yd) (e n : Wd) (b : Str) (kn : Kn) (line : List Int) (a8 a11 a12 a13 a14 a15 : Option D) : Ev := [some (courtD y), some (wdD e), some (wdD n), some (.str b), some (.int 0), some (.lst ((wgsO y b).map wgD)), some (.int (fnOf y.bs b)), some (.lst ((wgsO y b).map (totD e n))), a8, some (.dic (knD kn)), some (.lst (line.map D.int)), a11, a12, a13, a14, a15]
theorem dAt_kn {kn : Kn} (nd : (kn.map (·.1)).Nodup) {x : Int} {p : List Wg} (h : (x, p) ∈ kn) : dAt (.dic (knD kn)) (.int x) = pure (.lst (p.map wgD)) := by
  show (match lookD (knD kn) (.inl x) with
    | some z => pure z
    | none => bad) = _
  rw [knD_look nd h]
theorem dNin_kn {kn : Kn} (nd : (kn.map (·.1)).Nodup) (x : Int) : dNin (.int x) (.dic (knD kn)) = pure (.bl (!decide (x ∈ kn.map (·.1)))) := by
  show pure (D.bl (!(lookD (knD kn) (.inl x)).isSome)) = _
  rw [knD_isSome nd]
theorem add_wg {p : List Wg} {w : Wg} (h : p.length ≤ 1000) : dAdd (.lst (p.map wgD)) (.lst [wgD w]) = pure (.lst ((p ++ [w]).map wgD)) := by
  have hz : (1000 : Nat) < sizeLine := by decide
  show guardB (decide ((p.map wgD).length + 1 ≤ sizeLine)) (pure (D.lst (p.map wgD ++ [wgD w]))) = _
  rw [guard_of (decide_eq_true (by rw [List.length_map]; omega)), List.map_append]
  rfl
theorem cat_wg {p : List Wg} {w : Wg} (h : p.length ≤ 1000) : dCat (.lst (p.map wgD)) (.lst [wgD w]) = pure (.lst ((p ++ [w]).map wgD)) := by
  have hz : (1000 : Nat) < sizeLine := by decide
  show guardB (decide ((p.map wgD).length + 1 ≤ sizeLine)) (pure (D.lst (p.map wgD ++ [wgD w]))) = _
  rw [guard_of (decide_eq_true (by rw [List.length_map]; omega)), List.map_append]
  rfl

theorem word_of_eqW (t : Int) : m_word_of [.int t] = pure (.str (wordOf t)) := word_of_eq t
/-- one turn of the inner loop -/
theorem inner_ret {kn : Kn} {line : List Int} {x : Int} {p : List Wg} (S : Sr e.tot n.tot (fnOf y.bs b) (wgsO y b) kn) (hp : (x, p) ∈ kn) (hk : kn.length ≤ 229) {w : Wg} {a14 a15 : Option D} (ne : wordOf (e.tot w + x) ≠ wordOf (n.tot w + x)) :
    paI (pEnv y e n b kn line (some (wgD w)) (some (.int x)) (some (.int (e.tot w))) (some (.int (n.tot w))) a14 a15) = pure (.ret (.lst ((p ++ [w]).map wgD))) := by
  have pl := (S.wk _ hp).2
  refine st_seq (st_set (ev_call (ev_cons (ev_bin (ev_var rfl) (ev_var rfl) (dAdd_int _ _)) ev_nil) rfl (word_of_eqW _))) (st_seqr (st_ift (ev_tB (ev_bin (ev_var rfl) (ev_call (ev_cons (ev_bin (ev_var rfl) (ev_var rfl) (dAdd_int _ _)) ev_nil) rfl (word_of_eqW _)) (dNe_str _ _))) ?_ (st_ret (ev_bin (ev_bin (ev_var rfl) (ev_var rfl) (dAt_kn S.nd hp)) (ev_lst (ev_cons (x := wgD w) (ev_var rfl) ev_nil) rfl) (cat_wg (by simp only at pl; omega))))))
  rw [decide_eq_false ne]; rfl
theorem inner_old {kn : Kn} {line : List Int} {x : Int} {p : List Wg} (S : Sr e.tot n.tot (fnOf y.bs b) (wgsO y b) kn) (hp : (x, p) ∈ kn) {w : Wg} {a14 a15 : Option D} (eq : wordOf (e.tot w + x) = wordOf (n.tot w + x)) (hm : nextS (e.tot w) x (fnOf y.bs b) ∈ kn.map (·.1)) :
    ∃ b14 b15, paI (pEnv y e n b kn line (some (wgD w)) (some (.int x)) (some (.int (e.tot w))) (some (.int (n.tot w))) a14 a15) = pure (.nx (pEnv y e n b kn line (some (wgD w)) (some (.int x)) (some (.int (e.tot w))) (some (.int (n.tot w))) b14 b15)) := by
  refine ⟨_, _, st_seq (st_set (ev_call (ev_cons (ev_bin (ev_var rfl) (ev_var rfl) (dAdd_int _ _)) ev_nil) rfl (word_of_eqW _))) (st_seq (st_iff (ev_tB (ev_bin (ev_var rfl) (ev_call (ev_cons (ev_bin (ev_var rfl) (ev_var rfl) (dAdd_int _ _)) ev_nil) rfl (word_of_eqW _)) (dNe_str _ _))) ?_ st_nx) (st_seq (st_set (ev_bin (ev_var rfl) (ev_call (ev_cons (ev_var rfl) (ev_cons (ev_var rfl) ev_nil)) rfl (tired_eq (wordOf_mem _) _)) (dAdd_int _ _))) (st_iff (ev_tB (ev_bin (ev_var rfl) (ev_var rfl) (dNin_kn S.nd _))) ?_ st_nx)))⟩
  · rw [decide_eq_true eq]; rfl
  · have hm : x + tiW (wordOf (e.tot w + x)) (fnOf y.bs b) ∈ kn.map (·.1) := hm
    rw [decide_eq_true hm]; rfl
theorem inner_new {kn : Kn} {line : List Int} {x : Int} {p : List Wg} (S : Sr e.tot n.tot (fnOf y.bs b) (wgsO y b) kn) (hp : (x, p) ∈ kn) (hk : kn.length ≤ 229) (hl : line.length ≤ 1000) {w : Wg} {a14 a15 : Option D} (eq : wordOf (e.tot w + x) = wordOf (n.tot w + x)) (hm : nextS (e.tot w) x (fnOf y.bs b) ∉ kn.map (·.1)) :
    ∃ b14 b15, paI (pEnv y e n b kn line (some (wgD w)) (some (.int x)) (some (.int (e.tot w))) (some (.int (n.tot w))) a14 a15) = pure (.nx (pEnv y e n b (kn ++ [(nextS (e.tot w) x (fnOf y.bs b), p ++ [w])]) (line ++ [nextS (e.tot w) x (fnOf y.bs b)]) (some (wgD w)) (some (.int x)) (some (.int (e.tot w))) (some (.int (n.tot w))) b14 b15)) := by
  have hz : (1000 : Nat) < sizeLine := by decide
  have pl := (S.wk _ hp).2
  have hm' : x + tiW (wordOf (e.tot w + x)) (fnOf y.bs b) ∉ kn.map (·.1) := hm
  refine ⟨some (.str (wordOf (e.tot w + x))), some (.int (nextS (e.tot w) x (fnOf y.bs b))), st_seq (st_set (ev_call (ev_cons (ev_bin (ev_var rfl) (ev_var rfl) (dAdd_int _ _)) ev_nil) rfl (word_of_eqW _))) (st_seq (st_iff (ev_tB (ev_bin (ev_var rfl) (ev_call (ev_cons (ev_bin (ev_var rfl) (ev_var rfl) (dAdd_int _ _)) ev_nil) rfl (word_of_eqW _)) (dNe_str _ _))) ?_ st_nx) (st_seq (st_set (ev_bin (ev_var rfl) (ev_call (ev_cons (ev_var rfl) (ev_cons (ev_var rfl) ev_nil)) rfl (tired_eq (wordOf_mem _) _)) (dAdd_int _ _))) (st_ift (ev_tB (ev_bin (ev_var rfl) (ev_var rfl) (dNin_kn S.nd _))) ?_ (st_seq (st_setD (ev_bin (ev_bin (ev_var rfl) (ev_var rfl) (dAt_kn S.nd hp)) (ev_lst (ev_cons (x := wgD w) (ev_var rfl) ev_nil) rfl) (add_wg (by simp only at pl; omega))) (ev_var rfl) rfl rfl ?_) ?_))))⟩
  · rw [decide_eq_true eq]; rfl
  · rw [decide_eq_false hm']; rfl
  · show (knD kn).length < sizeLine
    unfold knD
    rw [List.length_map]
    omega
  · rw [knD_put hm']
    rw [st_app (ev_var rfl) rfl (by rw [List.length_map]; omega)]
    simp only [pEnv, List.map_append]
    rfl
end
end Cm
end
section
set_option Elab.async false
set_option linter.all false
set_option maxRecDepth 100000
set_option maxHeartbeats 400000
/-! the search at one beam: its loops -/
namespace Cm
open PySem PySem.Spec PyProof.Rows L2 Mir
section
variable {y : Yd} {e n : Wd} {b : Str}
/-- what the search keeps: line and known, all else closed -/
structure Bf (y : Yd) (e n : Wd) (b : Str) (kn : Kn) (line : List Int) : Prop where
  s : Sr e.tot n.tot (fnOf y.bs b) (wgsO y b) kn
  z : (0 : Int) ∈ kn.map (·.1)
  li : ∀ x ∈ line, x ∈ kn.map (·.1)
  cl : ∀ x ∈ kn.map (·.1), x ∉ line → Closed e.tot n.tot (fnOf y.bs b) (wgsO y b) kn x
  ln : line.length ≤ kn.length
/-- .. while the shift x is gone through, done the weighings behind -/
structure Bi (y : Yd) (e n : Wd) (b : Str) (x : Int) (p : List Wg) (m0 : Nat) (done : List Wg) (kn : Kn) (line : List Int) : Prop where
  s : Sr e.tot n.tot (fnOf y.bs b) (wgsO y b) kn
  z : (0 : Int) ∈ kn.map (·.1)
  li : ∀ x ∈ line, x ∈ kn.map (·.1)
  xp : (x, p) ∈ kn
  cl : ∀ x' ∈ kn.map (·.1), x' ∉ line → x' ≠ x → Closed e.tot n.tot (fnOf y.bs b) (wgsO y b) kn x'
  dn : ∀ w ∈ done, wordOf (e.tot w + x) = wordOf (n.tot w + x) ∧ nextS (e.tot w) x (fnOf y.bs b) ∈ kn.map (·.1)
  ms : 2 * (229 - kn.length) + line.length + 1 ≤ m0
  ln : line.length ≤ kn.length
theorem while_one (o : YdOk y) (he : WdOk y e) (hn : WdOk y n) (hb : b ∈ y.bn) (h1 : 0 < fnOf y.bs b) (h5 : fnOf y.bs b ≤ 5) {kn : Kn} {x : Int} {rest : List Int} (B : Bf y e n b kn (x :: rest)) {a8 a11 a12 a13 a14 a15 : Option D} :
    (∃ kn' line' b8 b11 b12 b13 b14 b15, paB (pEnv y e n b kn (x :: rest) a8 a11 a12 a13 a14 a15) = pure (.nx (pEnv y e n b kn' line' b8 b11 b12 b13 b14 b15)) ∧ Bf y e n b kn' line' ∧ 2 * (229 - kn'.length) + line'.length < 2 * (229 - kn.length) + (x :: rest).length) ∨
    ∃ q, paB (pEnv y e n b kn (x :: rest) a8 a11 a12 a13 a14 a15) = pure (.ret (.lst (q.map wgD))) ∧ Parts y e n b q := by
  have tot : ∀ w ∈ wgsO y b, -109 ≤ e.tot w ∧ e.tot w ≤ 109 := fun w hw => tot_small o he (wgsO_ok hb hw).1
  obtain ⟨⟨x', p⟩, hp, ex⟩ := List.mem_map.mp (B.li x (List.mem_cons_self ..))
  have ex : x' = x := ex
  subst ex
  have key := for_brT (tg := gT (gsCons (gN 8) (gsCons (gN 12) (gsCons (gN 13) gsNil)))) (b := paI) (totD e n)
    (fun done env => ∃ kn' line' b8 b12 b13 b14 b15, env = pEnv y e n b kn' line' b8 (some (.int x')) b12 b13 b14 b15 ∧ Bi y e n b x' p (2 * (229 - kn.length) + (x' :: rest).length) done kn' line')
    (fun v => ∃ q, v = .lst (q.map wgD) ∧ Parts y e n b q) (wgsO y b) [] (pEnv y e n b kn rest a8 (some (.int x')) a12 a13 a14 a15)
    ⟨kn, rest, _, _, _, _, _, rfl, B.s, B.z, fun z hz => B.li z (List.mem_cons_of_mem _ hz), hp, fun z hz h2 h3 => B.cl z hz fun q => by
      rcases List.mem_cons.mp q with q | q
      · exact h3 q
      · exact h2 q, (fun _ h => (nomatch h)), by rw [List.length_cons]; omega, by have := B.ln; rw [List.length_cons] at this; omega⟩ fun w hw done env hJ => by
      obtain ⟨kn', line', b8, b12, b13, b14, b15, rfl, I⟩ := hJ
      have hk := I.s.len tot h1 h5
      have hlen : line'.length ≤ 1000 := by
        have := I.ln
        omega
      refine ⟨pEnv y e n b kn' line' (some (wgD w)) (some (.int x')) (some (.int (e.tot w))) (some (.int (n.tot w))) b14 b15, rfl, ?_⟩
      by_cases eq : wordOf (e.tot w + x') = wordOf (n.tot w + x')
      · refine .inl ?_
        by_cases hm : nextS (e.tot w) x' (fnOf y.bs b) ∈ kn'.map (·.1)
        · obtain ⟨c14, c15, h⟩ := inner_old (line := line') (a14 := b14) (a15 := b15) I.s I.xp eq hm
          refine ⟨_, h, kn', line', _, _, _, _, _, rfl, { I with dn := fun v hv => ?_ }⟩
          rcases List.mem_append.mp hv with q | q
          · exact I.dn v q
          · rw [List.mem_singleton.mp q]; exact ⟨eq, hm⟩
        · obtain ⟨c14, c15, h⟩ := inner_new (line := line') (a14 := b14) (a15 := b15) I.s I.xp hk hlen eq hm
          have S2 := I.s.more I.xp hw eq hm
          have hk2 := S2.len tot h1 h5
          refine ⟨_, h, _, _, _, _, _, _, _, rfl, S2, ?_, fun z hz => ?_, List.mem_append_left _ I.xp, fun z hz h2 h3 => ?_, fun v hv => ?_, ?_, by have := I.ln; rw [List.length_append, List.length_append, List.length_singleton, List.length_singleton]; omega⟩
          · rw [List.map_append]; exact List.mem_append_left _ I.z
          · rw [List.map_append]
            rcases List.mem_append.mp hz with q | q
            · exact List.mem_append_left _ (I.li z q)
            · exact List.mem_append_right _ q
          · rw [List.map_append] at hz
            rcases List.mem_append.mp hz with q | q
            · exact (I.cl z q (fun k => h2 (List.mem_append_left _ k)) h3).more
            · exact absurd (List.mem_append_right _ q) h2
          · rw [List.map_append]
            rcases List.mem_append.mp hv with q | q
            · exact ⟨(I.dn v q).1, List.mem_append_left _ (I.dn v q).2⟩
            · rw [List.mem_singleton.mp q]
              exact ⟨eq, List.mem_append_right _ (List.mem_singleton.mpr rfl)⟩
          · have := I.ms
            rw [List.length_append, List.length_singleton] at hk2 ⊢
            rw [List.length_append, List.length_singleton]
            omega
      · refine .inr ⟨_, inner_ret (line := line') (a14 := b14) (a15 := b15) I.s I.xp hk eq, p ++ [w], rfl, p, x', w, rfl, (I.s.wk _ I.xp).1, hw, eq, ?_⟩
        have := (I.s.wk _ I.xp).2
        simp only at this
        omega
  have pop : cPop0 11 10 (pEnv y e n b kn (x' :: rest) a8 a11 a12 a13 a14 a15) = pure (.nx (pEnv y e n b kn rest a8 (some (.int x')) a12 a13 a14 a15)) := rfl
  rcases key with ⟨env', h, kn', line', b8, b12, b13, b14, b15, rfl, I⟩ | ⟨v, h, q, rfl, P⟩
  · refine .inl ⟨kn', line', b8, some (.int x'), b12, b13, b14, b15, st_seq pop (st_for (ev_iOn (ev_var rfl) rfl) h), ⟨I.s, I.z, I.li, (fun z hz h2 => ?_), I.ln⟩, ?_⟩
    · by_cases hx : z = x'
      · subst hx
        intro w hw
        exact I.dn w hw
      · exact I.cl z hz h2 hx
    · have := I.ms
      omega
  · exact .inr ⟨q, st_seq pop (st_for (ev_iOn (ev_var rfl) rfl) h), P⟩
theorem while_all (o : YdOk y) (he : WdOk y e) (hn : WdOk y n) (hb : b ∈ y.bn) (h1 : 0 < fnOf y.bs b) (h5 : fnOf y.bs b ≤ 5) : ∀ (M m : Nat) (kn : Kn) (line : List Int) (a8 a11 a12 a13 a14 a15 : Option D), Bf y e n b kn line → 2 * (229 - kn.length) + line.length ≤ M → M < m →
    (∃ kn' b8 b11 b12 b13 b14 b15, whGo paW paB m (pEnv y e n b kn line a8 a11 a12 a13 a14 a15) = pure (.nx (pEnv y e n b kn' [] b8 b11 b12 b13 b14 b15)) ∧ Bf y e n b kn' []) ∨
    ∃ q, whGo paW paB m (pEnv y e n b kn line a8 a11 a12 a13 a14 a15) = pure (.ret (.lst (q.map wgD))) ∧ Parts y e n b q
  | M, 0, _, _, _, _, _, _, _, _, _, _, hm => absurd hm (Nat.not_lt_zero _)
  | M, m + 1, kn, [], a8, a11, a12, a13, a14, a15, B, hM, hm => by
    refine .inl ⟨kn, a8, a11, a12, a13, a14, a15, ?_, B⟩
    have t : paW (pEnv y e n b kn [] a8 a11 a12 a13 a14 a15) = pure false := ev_tB (ev_bin (ev_var rfl) (ev_lst ev_nil rfl) (dNe_line []))
    unfold whGo
    rw [t, pure_bind', if_neg (by decide)]
  | M, m + 1, kn, x :: rest, a8, a11, a12, a13, a14, a15, B, hM, hm => by
    have t : paW (pEnv y e n b kn (x :: rest) a8 a11 a12 a13 a14 a15) = pure true := by
      refine ev_tB (ev_bin (ev_var rfl) (ev_lst ev_nil rfl) ?_)
      rw [dNe_line]
      rfl
    unfold whGo
    rw [t, pure_bind', if_pos rfl]
    rcases while_one (a8 := a8) (a11 := a11) (a12 := a12) (a13 := a13) (a14 := a14) (a15 := a15) o he hn hb h1 h5 B with ⟨kn', line', b8, b11, b12, b13, b14, b15, h, B', hl⟩ | ⟨q, h, P⟩
    · rw [h, pure_bind']
      exact while_all o he hn hb h1 h5 (M - 1) m kn' line' b8 b11 b12 b13 b14 b15 B' (by omega) (by omega)
    · rw [h, pure_bind']
      exact .inr ⟨q, rfl, P⟩
/-- the search at one beam: a way that parts, or none, where all tells alike -/
theorem parting_at_ex (o : YdOk y) (he : WdOk y e) (hn : WdOk y n) (hb : b ∈ y.bn) (h1 : 0 < fnOf y.bs b) (h5 : fnOf y.bs b ≤ 5) : ∃ r : Option (List Wg), m_parting_at [courtD y, wdD e, wdD n, .str b, .int 0] = pure (optD r) ∧ (r = none → ∃ kn, Bf y e n b kn []) ∧ ∀ q, r = some q → Parts y e n b q := by
  have hz : (1000 : Nat) ≤ sizeLine := by decide
  have wl := wgsO_len o b
  have pre : ∀ c, whGo paW paB fuel (pEnv y e n b [(0, [])] [0] none none none none none none) = pure c → b_parting_at [some (courtD y), some (wdD e), some (wdD n), some (.str b), some (.int 0), none, none, none, none, none, none, none, none, none, none, none] = match c with
      | .nx _ => pure (.ret .non)
      | c => pure c := fun c hc => by
    refine st_seq (st_par2 (ev_call (ev_cons (ev_var rfl) (ev_cons (ev_var rfl) ev_nil)) rfl (weighings_at_eq o b)) (ev_meth (ev_var rfl) (lk_m5 y) (ev_cons (ev_var rfl) ev_nil) rfl (step_eq o hb))) ?_
    refine st_seq (st_set (ev_lc (ev_iOn (ev_var rfl) rfl) (lc_mapT wgD (totD e n) (wgsO y b) [] (fun w hw => ⟨_, rfl, rfl, ev_tup (ev_cons (x := wgD w) (ev_var rfl) (ev_cons (ev_call (ev_cons (x := wdD e) (ev_var rfl) (ev_cons (x := wgD w) (ev_var rfl) ev_nil)) rfl (total_at_eq he (wgsO_ok hb hw).1)) (ev_cons (ev_call (ev_cons (x := wdD n) (ev_var rfl) (ev_cons (x := wgD w) (ev_var rfl) ev_nil)) rfl (total_at_eq hn (wgsO_ok hb hw).1)) ev_nil))) rfl⟩) (by simp; omega)))) ?_
    refine st_seq (st_par2 (x := .dic (knD [(0, [])])) (y := .lst ([0].map D.int)) rfl (ev_lst (ev_cons (ev_var rfl) ev_nil) rfl)) ?_
    show cSeq (cWhile paW paB) _ (pEnv y e n b [(0, [])] [0] none none none none none none) = _
    unfold cSeq cWhile
    rw [hc, pure_bind']
    cases c <;> rfl
  have B0 : Bf y e n b [(0, [])] [0] := {
    s := { nd := by simp, wk := fun q hq => by rw [List.mem_singleton.mp hq]; exact ⟨.nil, by simp⟩ }
    z := by simp
    li := fun x hx => by rw [List.mem_singleton.mp hx]; simp
    cl := fun x hx h => by
      obtain ⟨q, hq, rfl⟩ := List.mem_map.mp hx
      rw [List.mem_singleton.mp hq] at h
      exact absurd (List.mem_singleton.mpr rfl) h
    ln := by simp }
  rcases while_all o he hn hb h1 h5 457 fuel [(0, [])] [0] none none none none none none B0 (by simp) (by decide) with ⟨kn', b8, b11, b12, b13, b14, b15, h, B⟩ | ⟨q, h, P⟩
  · exact ⟨none, def_ret (pre _ h), fun _ => ⟨kn', B⟩, fun q hq => nomatch hq⟩
  · exact ⟨some q, def_ret (pre _ h), fun hq => (nomatch hq), fun q' hq => by cases hq; exact P⟩
end
end Cm
end
section
set_option Elab.async false
set_option linter.all false
set_option maxRecDepth 100000
set_option maxHeartbeats 400000
/-! marks; parting, alike -/
namespace Cm
open PySem PySem.Spec PyProof.Rows L2 Mir
def AlikeB (y : Yd) (e n : Wd) (b : Str) : Prop := ∀ w ∈ wgsO y b, markOf (e.tot w) (fnOf y.bs b) = markOf (n.tot w) (fnOf y.bs b)
section
variable {y : Yd} {e n : Wd} {b : Str}
theorem Bf.alike {kn : Kn} (B : Bf y e n b kn []) (h1 : 0 < fnOf y.bs b) (h5 : fnOf y.bs b ≤ 5) : AlikeB y e n b := fun w hw => by
  have k := marks_of_closed (t1 := e.tot w) (t2 := n.tot w) h1 h5 (fun x => x ∈ kn.map (·.1)) (fun x hx => (B.cl x hx (fun z => nomatch z) w hw).1) (fun x hx => (B.cl x hx (fun z => nomatch z) w hw).2) (e.tot w + fnOf y.bs b * 0).natAbs 0 (by rw [Int.mul_zero]; exact B.z) (Nat.le_refl _)
  rw [Int.mul_zero, Int.add_zero, Int.add_zero] at k
  exact k
theorem Parts.unlike {q : List Wg} (P : Parts y e n b q) (h1 : 0 < fnOf y.bs b) (h5 : fnOf y.bs b ≤ 5) (h : AlikeB y e n b) : False := by
  obtain ⟨q, x, w, _, wk, hw, ne, _⟩ := P
  obtain ⟨c, rfl⟩ := wk.step
  exact ne (mark_words h1 h5 (h w hw))
end
/-- a yard whose steps are above nought -/
def Up (y : Yd) : Prop := ∀ p ∈ y.bs, 0 < p.2
theorem Up.fn {y : Yd} (o : YdOk y) (u : Up y) {b : Str} (hb : b ∈ y.bn) : 0 < fnOf y.bs b ∧ fnOf y.bs b ≤ 5 := by
  obtain ⟨p, hp, rfl⟩ := List.mem_map.mp hb
  rw [fnOf_mem o.bd hp]
  exact ⟨u p hp, (o.st p hp).2.1⟩
theorem need_steps_eq {y : Yd} (u : Up y) : m_need_steps [courtD y] = pure .non := by
  obtain ⟨e', h1, _⟩ := for_foldT (tg := gT (gsCons (gN 1) (gsCons (gN 2) gsNil))) (b := cIf (tB' (eBin dLt (eVar 2) (eC (.int 0)))) cNever cNx) beamD (fun (_ : Nat) (_ : Unit) env => env.length = 3) (fun s _ => s) y.bs 0 () [some (courtD y), none, none] rfl fun p hp j s env _ hJ => by
    refine ⟨(env.set 1 (some (.str p.1))).set 2 (some (.int p.2)), (env.set 1 (some (.str p.1))).set 2 (some (.int p.2)), rfl, st_iff (t := decide (p.2 < 0)) (ev_tB (ev_bin (x := .int p.2) (ev_var ?_) ev_c rfl)) ?_ st_nx, by rw [List.length_set, List.length_set]; exact hJ⟩
    · rw [List.getElem?_set_self (by rw [List.length_set]; omega)]
    · have := u p hp
      exact decide_eq_false (by omega)
  exact def_nx (st_for (ev_iOn (ev_beams (ev_var rfl)) rfl) h1)
theorem plain_nil : Plain (.lst []) 0 1 := (Plain.lst (xs := []) (w := 0) (e := 0) fun x h => nomatch h).mono (by simp) (by omega)
theorem world_nil {y : Yd} (o : YdOk y) {w : Wd} (h : WdOk y w) : m_is_world [courtD y, .tup [], wdD w] = pure (.bl true) :=
  is_world_eq o h (rs := []) (fun _ h => nomatch h) (by simp) .tup (dEq_self rfl plain_nil (by decide))
theorem optD_isN (r : Option (List Wg)) : dIsN true (optD r) .non = pure (.bl r.isSome) := by cases r <;> rfl
theorem optD_isN' (r : Option (List Wg)) : dIsN false (optD r) .non = pure (.bl (!r.isSome)) := by cases r <;> rfl
theorem dLen_wg (q : List Wg) : dLen (.lst (q.map wgD)) = pure (.int q.length) := by
  show pure (D.int ((q.map wgD).length : Nat)) = _
  rw [List.length_map]
theorem parting_ex {y : Yd} (o : YdOk y) (u : Up y) {e n : Wd} (he : WdOk y e) (hn : WdOk y n) : ∃ r : Option (List Wg), m_parting [courtD y, wdD e, wdD n, .tup []] = pure (optD r) ∧ (r = none → ∀ p ∈ y.bs, AlikeB y e n p.1) ∧ ∀ q, r = some q → ∃ b ∈ y.bn, Parts y e n b q := by
  have key := for_brT (tg := gT (gsCons (gN 6) (gsCons (gN 7) gsNil))) (b := cSeq (cSet 8 (eCall 5 m_parting_at (aCons (eVar 0) (aCons (eVar 1) (aCons (eVar 2) (aCons (eVar 6) (aCons (eBin dAt (eVar 5) (eVar 6)) aNil))))))) (cIf (tAnd' (tB' (eBin (dIsN true) (eVar 8) (eC .non))) (tOr' (tB' (eBin (dIsN false) (eVar 4) (eC .non))) (tB' (eBin dLt (eUn dLen (eVar 8)) (eUn dLen (eVar 4)))))) (cMove 4 8) cNx)) beamD
    (fun done env => ∃ (r : Option (List Wg)) (a6 a7 a8 : Option D), env = [some (courtD y), some (wdD e), some (wdD n), some (.tup []), some (optD r), some (.dic (dOf y.bn (shO (fnOf y.bs) []))), a6, a7, a8] ∧ (r = none → ∀ p ∈ done, AlikeB y e n p.1) ∧ ∀ q, r = some q → ∃ b ∈ y.bn, Parts y e n b q)
    (fun _ => False) y.bs [] [some (courtD y), some (wdD e), some (wdD n), some (.tup []), some .non, some (.dic (dOf y.bn (shO (fnOf y.bs) []))), none, none, none]
    ⟨none, none, none, none, rfl, (fun _ _ h => (nomatch h)), fun _ h => (nomatch h)⟩ fun p hp done env hJ => by
      obtain ⟨r, a6, a7, a8, rfl, hr1, hr2⟩ := hJ
      have hb : p.1 ∈ y.bn := List.mem_map.mpr ⟨p, hp, rfl⟩
      obtain ⟨f1, f5⟩ := u.fn o hb
      obtain ⟨r', h', n', s'⟩ := parting_at_ex o he hn hb f1 f5
      refine ⟨[some (courtD y), some (wdD e), some (wdD n), some (.tup []), some (optD r), some (.dic (dOf y.bn (shO (fnOf y.bs) []))), some (.str p.1), some (.int p.2), a8], rfl, .inl ?_⟩
      have st1 := st_set (i := 8) (m := eCall 5 m_parting_at (aCons (eVar 0) (aCons (eVar 1) (aCons (eVar 2) (aCons (eVar 6) (aCons (eBin dAt (eVar 5) (eVar 6)) aNil)))))) (env := [some (courtD y), some (wdD e), some (wdD n), some (.tup []), some (optD r), some (.dic (dOf y.bn (shO (fnOf y.bs) []))), some (.str p.1), some (.int p.2), a8]) (ev_call (ev_cons (ev_var rfl) (ev_cons (ev_var rfl) (ev_cons (ev_var rfl) (ev_cons (ev_var rfl) (ev_cons (x := .int 0) (ev_bin (ev_var rfl) (ev_var rfl) (dAt_dOf hb)) ev_nil))))) rfl h')
      cases r' with
      | none =>
        refine ⟨_, st_seq st1 (st_iff (ev_tAnd (t1 := false) (t2 := false) (ev_tB (ev_bin (x := optD none) (ev_var rfl) ev_c (optD_isN none))) fun z => nomatch z) rfl st_nx), r, _, _, _, rfl, fun z q hq => ?_, hr2⟩
        rcases List.mem_append.mp hq with k | k
        · exact hr1 z q k
        · rw [List.mem_singleton.mp k]
          obtain ⟨kn, B⟩ := n' rfl
          exact B.alike f1 f5
      | some q' =>
        cases r with
        | none =>
          refine ⟨_, st_seq st1 (st_ift (ev_tAnd (t1 := true) (t2 := true) (ev_tB (ev_bin (x := optD (some q')) (ev_var rfl) ev_c (optD_isN _))) fun _ => ev_tOr (t1 := true) (t2 := true) (ev_tB (ev_bin (x := optD none) (ev_var rfl) ev_c (optD_isN' _))) fun z => nomatch z) rfl rfl), some q', _, _, _, rfl, (fun z => (nomatch z)), fun q hq => ?_⟩
          cases hq
          exact ⟨_, hb, s' _ rfl⟩
        | some q =>
          have tst : tAnd' (tB' (eBin (dIsN true) (eVar 8) (eC .non))) (tOr' (tB' (eBin (dIsN false) (eVar 4) (eC .non))) (tB' (eBin dLt (eUn dLen (eVar 8)) (eUn dLen (eVar 4))))) [some (courtD y), some (wdD e), some (wdD n), some (.tup []), some (optD (some q)), some (.dic (dOf y.bn (shO (fnOf y.bs) []))), some (.str p.1), some (.int p.2), some (optD (some q'))] = pure (decide ((q'.length : Int) < q.length)) :=
            ev_tAnd (t1 := true) (t2 := decide ((q'.length : Int) < q.length)) (ev_tB (ev_bin (x := optD (some q')) (ev_var rfl) ev_c (optD_isN _))) fun _ => ev_tOr (t1 := false) (t2 := decide ((q'.length : Int) < q.length)) (ev_tB (ev_bin (x := optD (some q)) (ev_var rfl) ev_c (optD_isN' _))) fun _ => ev_tB (ev_bin (ev_un (ev_var rfl) (dLen_wg q')) (ev_un (ev_var rfl) (dLen_wg q)) rfl)
          by_cases hlt : (q'.length : Int) < q.length
          · refine ⟨_, st_seq st1 (st_ift tst (decide_eq_true hlt) rfl), some q', _, _, _, rfl, (fun z => (nomatch z)), fun q hq => ?_⟩
            cases hq
            exact ⟨_, hb, s' _ rfl⟩
          · exact ⟨_, st_seq st1 (st_iff tst (decide_eq_false hlt) st_nx), some q, _, _, _, rfl, (fun z => (nomatch z)), hr2⟩
  rcases key with ⟨env', h, r, a6, a7, a8, rfl, h1, h2⟩ | ⟨v, _, k⟩
  · refine ⟨r, def_ret (st_seq (st_drop (ev_call (ev_cons (ev_var rfl) ev_nil) rfl (need_steps_eq u))) (st_seq (st_drop (ev_call (ev_cons (ev_var rfl) (ev_cons (ev_var rfl) ev_nil)) rfl (need_world_eq o he))) (st_seq (st_drop (ev_call (ev_cons (ev_var rfl) (ev_cons (ev_var rfl) ev_nil)) rfl (need_world_eq o hn))) (st_seq (st_iff (ev_tOr (t1 := false) (t2 := false) (ev_tNot (t := true) (ev_tB (ev_call (ev_cons (ev_var rfl) (ev_cons (ev_var rfl) (ev_cons (ev_var rfl) ev_nil))) rfl (world_nil o he)))) fun _ => ev_tNot (t := true) (ev_tB (ev_call (ev_cons (ev_var rfl) (ev_cons (ev_var rfl) (ev_cons (ev_var rfl) ev_nil))) rfl (world_nil o hn)))) rfl st_nx) (st_seq (st_par2 ev_c (ev_call (ev_cons (ev_var rfl) (ev_cons (ev_var rfl) ev_nil)) rfl (shifts_eq o (rs := []) (fun _ h => nomatch h) (by simp) .tup))) (st_seq (st_for (ev_iOn (ev_beams (ev_var rfl)) rfl) h) (st_ret (ev_var rfl)))))))), h1, h2⟩
  · exact k.elim
end Cm
end
section
set_option Elab.async false
set_option linter.all false
set_option maxRecDepth 100000
set_option maxHeartbeats 400000
/-! the law's marks -/
namespace Cm
open PySem PySem.Spec PyProof.Rows L2 Mir
def markD (q : Int × Bool) : D := .tup [.int q.1, .bl q.2]
def marksB (w : Wd) (y : Yd) (p : Str × Int) : List (Int × Bool) := (wgsO y p.1).map fun v => markOf (w.tot v) p.2
def marksOf (y : Yd) (w : Wd) : List (Int × Bool) := y.bs.flatMap fun p => marksB w y p
theorem flatMap_inj {α β : Type} {f g : α → List β} : ∀ {xs : List α}, (∀ x ∈ xs, (f x).length = (g x).length) → xs.flatMap f = xs.flatMap g → ∀ x ∈ xs, f x = g x
  | x :: xs, h, e, z, hz => by
    rw [List.flatMap_cons, List.flatMap_cons] at e
    obtain ⟨e1, e2⟩ := List.append_inj e (h x (List.mem_cons_self ..))
    rcases List.mem_cons.mp hz with q | q
    · rw [q]; exact e1
    · exact flatMap_inj (fun a ha => h a (List.mem_cons_of_mem _ ha)) e2 z q
theorem map_inj {α β : Type} {f g : α → β} : ∀ {xs : List α}, xs.map f = xs.map g → ∀ x ∈ xs, f x = g x
  | x :: xs, e, z, hz => by
    rw [List.map_cons, List.map_cons] at e
    injection e with e1 e2
    rcases List.mem_cons.mp hz with q | q
    · rw [q]; exact e1
    · exact map_inj e2 z q
theorem marks_iff {y : Yd} (o : YdOk y) {e n : Wd} : marksOf y e = marksOf y n ↔ ∀ p ∈ y.bs, AlikeB y e n p.1 := by
  constructor
  · intro h p hp w hw
    have k := flatMap_inj (f := fun p => marksB e y p) (g := fun p => marksB n y p) (fun x _ => by unfold marksB; rw [List.length_map, List.length_map]) h p hp
    have k2 := map_inj k w hw
    rw [fnOf_mem o.bd hp]
    exact k2
  · intro h
    unfold marksOf
    rw [List.flatMap_def, List.flatMap_def]
    congr 1
    refine List.map_congr_left fun p hp => ?_
    unfold marksB
    refine List.map_congr_left fun w hw => ?_
    have := h p hp w hw
    rw [fnOf_mem o.bd hp] at this
    exact this
/-- walks that gather -/
theorem fold_flat {α β : Type} (g : α → List β) : ∀ (xs : List α) (s : List β), xs.foldl (fun s x => s ++ g x) s = s ++ xs.flatMap g
  | [], s => (List.append_nil s).symm
  | x :: xs, s => by rw [List.foldl_cons, fold_flat g xs, List.flatMap_cons, List.append_assoc]
theorem fold_filter {α β : Type} (c : α → Bool) (f : α → β) : ∀ (xs : List α) (s : List β), xs.foldl (fun s x => if c x = true then s ++ [f x] else s) s = s ++ (xs.filter c).map f
  | [], s => (List.append_nil s).symm
  | x :: xs, s => by
    rw [List.foldl_cons, fold_filter c f xs]
    cases h : c x with
    | true => rw [if_pos rfl, List.filter_cons_of_pos h, List.map_cons, List.append_assoc]; rfl
    | false => rw [if_neg (by decide), List.filter_cons_of_neg (by rw [h]; decide)]
abbrev mkI : Ev → M Ctl := cIf (tOr' (tB' (eBin (dIsN false) (eVar 6) (eC .non))) (tB' (eBin dNe (eVar 6) (eVar 7)))) (cSeq (cSet 8 (eBin dAdd (eBin dSub (eTri dGet2 (eBin dAt (eVar 1) (eC (.int 0))) (eVar 6) (eC (.int 0))) (eTri dGet2 (eBin dAt (eVar 1) (eC (.int 0))) (eVar 7) (eC (.int 0)))) (eBin dAt (eBin dAt (eVar 1) (eC (.int 1))) (eVar 4)))) (cApp 2 (eTup (aCons (eBin dDiv (eVar 8) (eVar 5)) (aCons (eBin dEq (eBin dMod (eVar 8) (eVar 5)) (eC (.int 0))) aNil))))) cNx
section
variable {y : Yd} {w : Wd}
abbrev mEnv (y : Yd) (w : Wd) (s : List (Int × Bool)) (a4 a5 a6 a7 a8 : Option D) : Ev := [some (rowD y), some (wdD w), some (.lst (s.map markD)), some (.lst ((pansO y).map panD)), a4, a5, a6, a7, a8]
theorem marks_in (o : YdOk y) (u : Up y) (h : WdOk y w) {p : Str × Int} (hp : p ∈ y.bs) {l : Option Str} (hl : l ∈ pansO y) (s : List (Int × Bool)) (hs : s.length ≤ 1000) (a7 a8 : Option D) :
    ∃ b7 b8, forGo (gN 7) mkI ((pansO y).map panD) (mEnv y w s (some (.str p.1)) (some (.int p.2)) (some (panD l)) a7 a8) = pure (.nx (mEnv y w (s ++ (rightsO y l).map fun r => markOf (w.tot ⟨p.1, l, r⟩) p.2) (some (.str p.1)) (some (.int p.2)) (some (panD l)) b7 b8)) := by
  have hz : (2000 : Nat) < sizeLine := by decide
  have pl := pansO_len o
  have up := u p hp
  have st := o.st p hp
  have hb : p.1 ∈ y.bn := List.mem_map.mpr ⟨p, hp, rfl⟩
  obtain ⟨e', h1, _, b7, b8, rfl⟩ := for_foldT (tg := gN 7) (b := mkI) panD (fun i (t : List (Int × Bool)) env => t.length ≤ 1000 + i ∧ ∃ b7 b8, env = mEnv y w t (some (.str p.1)) (some (.int p.2)) (some (panD l)) b7 b8) (fun t r => if (decide (l = none) || !decide (l = r)) = true then t ++ [markOf (w.tot ⟨p.1, l, r⟩) p.2] else t) (pansO y) 0 s (mEnv y w s (some (.str p.1)) (some (.int p.2)) (some (panD l)) a7 a8) ⟨hs, _, _, rfl⟩ fun r hr j t env hj hJ => by
    obtain ⟨ht, b7, b8, rfl⟩ := hJ
    have tst := right_test (i := 6) (j := 7) (env := mEnv y w t (some (.str p.1)) (some (.int p.2)) (some (panD l)) (some (panD r)) b8) o hl hr rfl rfl
    by_cases c : (decide (l = none) || !decide (l = r)) = true
    · refine ⟨mEnv y w t (some (.str p.1)) (some (.int p.2)) (some (panD l)) (some (panD r)) b8, mEnv y w (t ++ [markOf (w.tot ⟨p.1, l, r⟩) p.2]) (some (.str p.1)) (some (.int p.2)) (some (panD l)) (some (panD r)) (some (.int (w.tot ⟨p.1, l, r⟩))), rfl, st_ift tst c (st_seq (st_set (ev_bin (ev_bin (ev_tri (ev_bin (x := wdD w) (ev_var rfl) ev_c rfl) (ev_var rfl) ev_c (get_wt h (pansO_ok hl))) (ev_tri (ev_bin (x := wdD w) (ev_var rfl) ev_c rfl) (ev_var rfl) ev_c (get_wt h (pansO_ok hr))) (dSub_int _ _)) (ev_bin (ev_bin (x := wdD w) (ev_var rfl) ev_c rfl) (ev_var rfl) (dAt_dOf (h.bp.mem_iff.mpr hb))) (dAdd_int _ _))) ?_), ?_, ?_⟩
      · rw [st_app (ev_tup (ev_cons (ev_bin (ev_var rfl) (ev_var rfl) (dDiv_int up (by omega))) (ev_cons (ev_bin (ev_bin (ev_var rfl) (ev_var rfl) (dMod_int up)) ev_c (dEq_int _ _)) ev_nil)) rfl) rfl (by rw [List.length_map]; omega)]
        simp only [mEnv, List.map_append]
        rfl
      · rw [if_pos c, List.length_append, List.length_singleton]; omega
      · exact ⟨_, _, by rw [if_pos c]⟩
    · refine ⟨mEnv y w t (some (.str p.1)) (some (.int p.2)) (some (panD l)) (some (panD r)) b8, mEnv y w t (some (.str p.1)) (some (.int p.2)) (some (panD l)) (some (panD r)) b8, rfl, st_iff tst (by simpa using c) st_nx, ?_, ?_⟩
      · rw [if_neg c]; omega
      · exact ⟨_, _, by rw [if_neg c]⟩
  refine ⟨b7, b8, ?_⟩
  rw [h1, fold_filter (fun r => decide (l = none) || !decide (l = r)) (fun r => markOf (w.tot ⟨p.1, l, r⟩) p.2)]
  rfl
theorem marks_mid (o : YdOk y) (u : Up y) (h : WdOk y w) {p : Str × Int} (hp : p ∈ y.bs) (s : List (Int × Bool)) (hs : s.length ≤ 500) (a6 a7 a8 : Option D) :
    ∃ b6 b7 b8, forGo (gN 6) (cFor (iOn dIt (eVar 3)) (gN 7) mkI) ((pansO y).map panD) (mEnv y w s (some (.str p.1)) (some (.int p.2)) a6 a7 a8) = pure (.nx (mEnv y w (s ++ marksB w y p) (some (.str p.1)) (some (.int p.2)) b6 b7 b8)) := by
  have pl := pansO_len o
  obtain ⟨e', h1, _, b6, b7, b8, rfl⟩ := for_foldT (tg := gN 6) (b := cFor (iOn dIt (eVar 3)) (gN 7) mkI) panD (fun i (t : List (Int × Bool)) env => t.length ≤ 500 + 9 * i ∧ ∃ b6 b7 b8, env = mEnv y w t (some (.str p.1)) (some (.int p.2)) b6 b7 b8) (fun t l => t ++ (rightsO y l).map fun r => markOf (w.tot ⟨p.1, l, r⟩) p.2) (pansO y) 0 s (mEnv y w s (some (.str p.1)) (some (.int p.2)) a6 a7 a8) ⟨hs, _, _, _, rfl⟩ fun l hl j t env hj hJ => by
    obtain ⟨ht, b6, b7, b8, rfl⟩ := hJ
    obtain ⟨c7, c8, k⟩ := marks_in o u h hp hl t (by omega) b7 b8
    have rl := rightsO_len o l
    refine ⟨mEnv y w t (some (.str p.1)) (some (.int p.2)) (some (panD l)) b7 b8, _, rfl, st_for (ev_iOn (ev_var rfl) rfl) k, ?_, _, _, _, rfl⟩
    rw [List.length_append, List.length_map]
    omega
  refine ⟨b6, b7, b8, ?_⟩
  rw [h1, fold_flat]
  unfold marksB wgsO
  rw [List.map_flatMap]
  simp only [List.map_map]
  rfl
theorem marks_eq (o : YdOk y) (u : Up y) (h : WdOk y w) : m__law_marks [rowD y, wdD w] = pure (.lst ((marksOf y w).map markD)) := by
  have b3 := o.b3
  obtain ⟨e', h1, _, b4, b5, b6, b7, b8, rfl⟩ := for_foldT (tg := gT (gsCons (gN 4) (gsCons (gN 5) gsNil))) (b := cFor (iOn dIt (eVar 3)) (gN 6) (cFor (iOn dIt (eVar 3)) (gN 7) mkI)) beamD (fun i (t : List (Int × Bool)) env => t.length ≤ 81 * i ∧ ∃ b4 b5 b6 b7 b8, env = mEnv y w t b4 b5 b6 b7 b8) (fun t p => t ++ marksB w y p) y.bs 0 [] (mEnv y w [] none none none none none) ⟨Nat.le_refl _, _, _, _, _, _, rfl⟩ fun p hp j t env hj hJ => by
    obtain ⟨ht, b4, b5, b6, b7, b8, rfl⟩ := hJ
    obtain ⟨c6, c7, c8, k⟩ := marks_mid o u h hp t (by omega) b6 b7 b8
    refine ⟨mEnv y w t (some (.str p.1)) (some (.int p.2)) b6 b7 b8, _, rfl, st_for (ev_iOn (ev_var rfl) rfl) k, ?_, _, _, _, _, _, rfl⟩
    have := wgsO_len o p.1
    rw [List.length_append]
    unfold marksB
    rw [List.length_map]
    omega
  refine def_ret (st_seq (st_par2 (ev_lst ev_nil rfl) (y := .lst ((pansO y).map panD)) (ev_bin (ev_lst (ev_cons ev_c ev_nil) rfl) (ev_bin (x := rowD y) (ev_var rfl) ev_c rfl) ?_)) (st_seq (st_for (ev_iOn (ev_bin (x := rowD y) (ev_var rfl) ev_c rfl) rfl) h1) ?_))
  · have e : (pansO y).map panD = D.non :: namesD y.ns := (pans_map y.ns).symm
    rw [e]
    exact dAdd_pans o.n8
  · rw [st_ret (ev_var rfl), fold_flat, List.nil_append]
    rfl
end
/-- marks compared -/
def markP (q : Int × Bool) : PyData := .tuple [.int q.1, .bool q.2]
theorem toPys_marks : ∀ l : List (Int × Bool), toPys (l.map markD) = some (l.map markP)
  | [] => rfl
  | q :: l => by
    rw [List.map_cons]
    have e : toPy (markD q) = some (markP q) := rfl
    simp only [toPys, toPys_marks l, e, List.map_cons]
theorem eqv_mark (p q : Int × Bool) : PyData.eqv (markP p) (markP q) = decide (p = q) := by
  obtain ⟨a, b⟩ := p
  obtain ⟨c, d⟩ := q
  unfold markP
  simp only [PyData.eqv, PyData.eqvAll, Bool.and_true, Prod.mk.injEq]
  rw [Bool.eq_iff_iff, Bool.and_eq_true, beq_iff_eq, beq_iff_eq, decide_eq_true_iff]
theorem eqvAll_marks : ∀ l m : List (Int × Bool), PyData.eqvAll (l.map markP) (m.map markP) = decide (l = m)
  | [], [] => rfl
  | [], _ :: _ => rfl
  | _ :: _, [] => rfl
  | p :: l, q :: m => by
    rw [List.map_cons, List.map_cons]
    simp only [PyData.eqvAll, eqv_mark, eqvAll_marks l m]
    rw [Bool.eq_iff_iff, Bool.and_eq_true, decide_eq_true_iff, decide_eq_true_iff, decide_eq_true_iff, List.cons.injEq]
theorem mark_plain (q : Int × Bool) (h : q.1.natAbs < 10 ^ 12) : Plain (markD q) 130 1 :=
  Plain.tup (w := 64) (e := 0) (xs := [.int q.1, .bl q.2]) fun x hx => by
    simp only [List.mem_cons, List.not_mem_nil, or_false] at hx
    rcases hx with e | e <;> subst e
    · exact Plain.int h
    · exact Plain.bl _
theorem dEq_marks {l m : List (Int × Bool)} (hl : ∀ q ∈ l, q.1.natAbs < 10 ^ 12) (hm : ∀ q ∈ m, q.1.natAbs < 10 ^ 12) : dEq (.lst (l.map markD)) (.lst (m.map markD)) = pure (.bl (decide (l = m))) := by
  have s : ∀ l : List (Int × Bool), (∀ q ∈ l, q.1.natAbs < 10 ^ 12) → SeqAt.shaped (.list (l.map markP)) = true := fun l hl => by
    obtain ⟨p, a1, a2, a3, a4, a5, a6, a7⟩ := Plain.lst (xs := l.map markD) (w := 130) (e := 1) fun x hx => by
      obtain ⟨q, hq, rfl⟩ := List.mem_map.mp hx
      exact mark_plain q (hl q hq)
    simp only [toPy, toPys_marks, Option.map_some] at a1
    cases a1
    exact shaped_of a3 (by omega)
  have e := dEqB_P (neg := false) (x := .lst (l.map markD)) (y := .lst (m.map markD)) rfl
  have e2 := dEqP_val (neg := false) (x := .lst (l.map markD)) (y := .lst (m.map markD)) (p := .list (l.map markP)) (q := .list (m.map markP)) (by simp only [toPy, toPys_marks, Option.map_some]) (by simp only [toPy, toPys_marks, Option.map_some]) (s l hl) (s m hm)
  rw [dEq, e, e2]
  simp only [PyData.eqv, eqvAll_marks]
  rfl
theorem marks_small {y : Yd} (o : YdOk y) (u : Up y) {w : Wd} (h : WdOk y w) : ∀ q ∈ marksOf y w, q.1.natAbs < 10 ^ 12 := fun q hq => by
  obtain ⟨p, hp, h2⟩ := List.mem_flatMap.mp hq
  obtain ⟨v, hv, rfl⟩ := List.mem_map.mp h2
  have hb : p.1 ∈ y.bn := List.mem_map.mpr ⟨p, hp, rfl⟩
  have t := tot_small o h (wgsO_ok hb hv).1
  have up := u p hp
  have st := o.st p hp
  show (w.tot v / p.2).natAbs < 10 ^ 12
  generalize w.tot v = a at t
  generalize p.2 = s at up st
  have hs : s = 1 ∨ s = 2 ∨ s = 3 ∨ s = 4 ∨ s = 5 := by omega
  rcases hs with e | e | e | e | e <;> subst e <;> omega
end Cm
end
section
set_option Elab.async false
set_option linter.all false
set_option maxRecDepth 100000
set_option maxHeartbeats 400000
/-! what a parting tells; two worlds are told right -/
namespace Cm
open PySem PySem.Spec PyProof.Rows L2 Mir
theorem ev_callD {nn : Nat} {dd z : D} {f : List D → M D} {ms : Ev → M (List D)} {env : Ev} {xs : List D} (h : ms env = pure xs) (hl : (xs.length == nn) = true) (h2 : f (xs ++ [dd]) = pure z) : eCallD nn dd f ms env = pure z := by
  unfold eCallD; rw [h, pure_bind', guard_of hl, h2]
theorem ev_callL {nn : Nat} {z : D} {f : List D → M D} {ms : Ev → M (List D)} {env : Ev} {xs : List D} (h : ms env = pure xs) (hl : (xs.length == nn) = true) (h2 : f xs = pure z) (h3 : unl z = true) : eCallL nn f ms env = pure z := by
  unfold eCallL; rw [h, pure_bind', guard_of hl, h2, pure_bind', guard_of h3]
theorem ev_lend {i : Nat} {ms : Ev → M (List D)} {env : Ev} {xs ys : List D} (h : env[i]? = some (some (.lst xs))) (h2 : ms env = pure ys) : aLend i ms env = pure (.ln xs :: ys) := by
  unfold aLend; rw [h, h2]; rfl
theorem st_clrL {i : Nat} {env : Ev} {xs : List D} (h : env[i]? = some (some (.lst xs))) : cClrL i env = (pure (Ctl.nx (env.set i (some (D.lst [])))) : M Ctl) := by
  unfold cClrL; rw [h]
theorem unl_pan (p : Option Str) : unl (panD p) = true := by cases p <;> simp [panD, unl]
theorem unl_rws : ∀ rs : List Rw, unls (rs.map rwD) = true
  | [] => by simp [unls]
  | r :: rs => by
    rw [List.map_cons]
    simp only [unls, rwD, unl, unl_pan, unl_rws rs]
    rfl
/-- a fold of the telling -/
abbrev tf (y : Yd) (w : Wd) (p : List Wg) : (Str → Int) × List Rw := p.foldl (tellS w.wt (fnOf y.bs)) (w.g, [])
theorem tf_tell (y : Yd) (w : Wd) (p : List Wg) : (tf y w p).2 = tell w.wt (fnOf y.bs) p w.g := by
  rw [tf, tell_fold]
  rfl
section
variable {y : Yd} {e n : Wd} {b : Str}
theorem tot_at {w : Wd} {v : Wg} {x : Int} (hv : v.b = b) : w.wt v.l - w.wt v.r + (w.g b + x) = w.tot v + x := by
  unfold Wd.tot
  rw [hv]
  omega
theorem walk_tell (hb : b ∈ y.bn) {p : List Wg} {x : Int} (h : Walk e.tot n.tot (fnOf y.bs b) (wgsO y b) p x) : (tf y e p).1 b = e.g b + x ∧ (tf y n p).1 b = n.g b + x ∧ (tf y e p).2 = (tf y n p).2 := by
  induction h with
  | nil => exact ⟨by show e.g b = e.g b + 0; omega, by show n.g b = n.g b + 0; omega, rfl⟩
  | @snoc p x w _ hw eq ih =>
    obtain ⟨i1, i2, i3⟩ := ih
    have wb := (wgsO_ok hb hw).2
    have s1 : tf y e (p ++ [w]) = tellS e.wt (fnOf y.bs) (tf y e p) w := List.foldl_append ..
    have s2 : tf y n (p ++ [w]) = tellS n.wt (fnOf y.bs) (tf y n p) w := List.foldl_append ..
    rw [s1, s2]
    unfold tellS
    rw [wb, i1, i2, tot_at wb, tot_at wb]
    dsimp only
    rw [updF_same, updF_same, i3, eq]
    refine ⟨?_, ?_, rfl⟩
    · show e.g b + x + tiW (wordOf (n.tot w + x)) (fnOf y.bs b) = e.g b + nextS (e.tot w) x (fnOf y.bs b)
      unfold nextS
      rw [eq]
      omega
    · show n.g b + x + tiW (wordOf (n.tot w + x)) (fnOf y.bs b) = n.g b + nextS (e.tot w) x (fnOf y.bs b)
      unfold nextS
      rw [eq]
      omega
/-- the words but the last are alike, the last are not -/
theorem parts_tell (hb : b ∈ y.bn) {q : List Wg} (P : Parts y e n b q) : ∃ (rs : List Rw) (w : Wg) (u v : Str), tell e.wt (fnOf y.bs) q e.g = rs ++ [⟨w, u⟩] ∧ tell n.wt (fnOf y.bs) q n.g = rs ++ [⟨w, v⟩] ∧ u ≠ v := by
  obtain ⟨p, x, w, rfl, wk, hw, ne, _⟩ := P
  obtain ⟨i1, i2, i3⟩ := walk_tell hb wk
  have wb := (wgsO_ok hb hw).2
  have s1 : tf y e (p ++ [w]) = tellS e.wt (fnOf y.bs) (tf y e p) w := List.foldl_append ..
  have s2 : tf y n (p ++ [w]) = tellS n.wt (fnOf y.bs) (tf y n p) w := List.foldl_append ..
  refine ⟨(tf y n p).2, w, wordOf (e.tot w + x), wordOf (n.tot w + x), ?_, ?_, ne⟩
  · rw [← tf_tell, s1]
    unfold tellS
    rw [wb, i1, tot_at wb, i3]
  · rw [← tf_tell, s2]
    unfold tellS
    rw [wb, i2, tot_at wb]
theorem parts_ok (hb : b ∈ y.bn) {q : List Wg} (P : Parts y e n b q) : (∀ w ∈ q, WgOk y w) ∧ q.length ≤ 1000 := by
  obtain ⟨p, x, w, rfl, wk, hw, ne, hl⟩ := P
  refine ⟨fun v hv => ?_, by rw [List.length_append, List.length_singleton]; omega⟩
  rcases List.mem_append.mp hv with k | k
  · exact (wgsO_ok hb (wk.mem v k)).1
  · rw [List.mem_singleton.mp k]
    exact (wgsO_ok hb hw).1
end
theorem alike_eq {y : Yd} (o : YdOk y) (u : Up y) {e n : Wd} (he : WdOk y e) (hn : WdOk y n) : m_alike [courtD y, wdD e, wdD n] = pure (.bl (decide (marksOf y e = marksOf y n))) := by
  obtain ⟨r, h, h1, h2⟩ := parting_ex o u he hn
  refine def_ret (st_ret (ev_bin (ev_callD (ev_cons (ev_var rfl) (ev_cons (ev_var rfl) (ev_cons (ev_var rfl) ev_nil))) rfl h) ev_c ?_))
  rw [optD_isN']
  cases r with
  | none => rw [decide_eq_true ((marks_iff o).mpr (h1 rfl))]; rfl
  | some q =>
    rw [decide_eq_false]
    · rfl
    · intro k
      obtain ⟨b, hb, P⟩ := h2 q rfl
      obtain ⟨p, hp, rfl⟩ := List.mem_map.mp hb
      obtain ⟨f1, f5⟩ := u.fn o hb
      exact P.unlike f1 f5 ((marks_iff o).mp k p hp)
theorem cut_last (xs : List D) (z : D) : dSl (.lst (xs ++ [z])) none (some (-1)) = pure (.lst xs) := by
  show pure (D.lst (cutL (xs ++ [z]) none (some (-1)))) = _
  unfold cutL
  rw [HT.sIx_none]
  have e : HT.sIx (xs ++ [z]).length (xs ++ [z]).length (some (-1)) = xs.length := by
    show ((-1 : Int) + (((xs ++ [z]).length : Nat) : Int)).toNat = xs.length
    rw [List.length_append, List.length_singleton]
    omega
  rw [e, Nat.sub_zero, List.drop_zero, List.take_left']
  rfl
theorem at_last (xs : List D) (z : D) : dAt (.lst (xs ++ [z])) (.int (-1)) = pure z := by
  show (match atI (xs ++ [z]) (-1) with
    | some z => pure z
    | none => bad : M D) = _
  have e : atI (xs ++ [z]) (-1) = some z := by
    unfold atI ixN
    rw [if_neg (by decide), if_pos (by rw [List.length_append, List.length_singleton]; omega), List.length_append, List.length_singleton]
    have q : ((-1 : Int) + ((xs.length + 1 : Nat) : Int)).toNat = xs.length := by omega
    show (xs ++ [z])[((-1 : Int) + ((xs.length + 1 : Nat) : Int)).toNat]? = some z
    rw [q, List.getElem?_append_right (Nat.le_refl _), Nat.sub_self]
    rfl
  rw [e]
theorem dNe_self {x : D} {w e : Nat} (hr : isRefD x = true) (hx : Plain x w e) (h1 : e ≤ 64) : dNe x x = pure (.bl false) := by
  obtain ⟨p, a1, a2, a3, a4, a5, a6, a7⟩ := hx
  rw [dNe, dEqB_P hr, dEqP_val a1 a1 (shaped_of a3 (by omega)) (shaped_of a3 (by omega)), SeqAt.eqv_refl p a3]
  rfl
theorem dNe_rw {y : Yd} (o : YdOk y) {w : Wg} {u v : Str} (h1 : RwOk y ⟨w, u⟩) (h2 : RwOk y ⟨w, v⟩) (ne : u ≠ v) : dNe (rwD ⟨w, u⟩) (rwD ⟨w, v⟩) = pure (.bl true) := by
  obtain ⟨p, a1, _, a3, _, _, _, a7⟩ := rw_plain o h1
  obtain ⟨q, b1, _, b3, _, _, _, b7⟩ := rw_plain o h2
  rw [dNe, dEqB_P rfl, dEqP_val a1 b1 (shaped_of a3 (by omega)) (shaped_of b3 (by omega))]
  obtain ⟨l, hl⟩ : ∃ l, toPy (panD w.l) = some l := by cases w.l <;> exact ⟨_, rfl⟩
  obtain ⟨r, hr⟩ : ∃ r, toPy (panD w.r) = some r := by cases w.r <;> exact ⟨_, rfl⟩
  have e1 : toPy (rwD ⟨w, u⟩) = some (.tuple [.str w.b, l, r, .str u]) := by simp only [rwD, toPy, toPys, hl, hr, Option.map_some]
  have e2 : toPy (rwD ⟨w, v⟩) = some (.tuple [.str w.b, l, r, .str v]) := by simp only [rwD, toPy, toPys, hl, hr, Option.map_some]
  rw [e1] at a1
  rw [e2] at b1
  cases a1
  cases b1
  have f : (u == v) = false := by simpa using ne
  simp only [PyData.eqv, PyData.eqvAll, f, Bool.false_and, Bool.and_false]
  rfl
theorem bls_repr (t : Bool) : ∃ z, dRepr (.lst [.bl t, .bl t, .bl t]) = pure (.str z) := by
  have p : Plain (.lst [.bl t, .bl t, .bl t]) 1000 1 := (Plain.lst (xs := [.bl t, .bl t, .bl t]) (w := 64) (e := 0) fun x hx => by
    simp only [List.mem_cons, List.not_mem_nil, or_false] at hx
    rcases hx with e | e | e <;> subst e <;> exact Plain.bl _).mono (by simp) (by omega)
  exact p.shows.repr rfl (by unfold goodR; rw [p.good]; rfl) (by decide) (by decide)
theorem wgs_plain {y : Yd} (o : YdOk y) {ws : List Wg} (h : ∀ w ∈ ws, WgOk y w) (hl : ws.length ≤ 1000) : Plain (.lst (ws.map wgD)) 196000 2 :=
  (Plain.lst (w := 195) (e := 1) fun x hx => by
    obtain ⟨r, h1, rfl⟩ := List.mem_map.mp hx
    exact wg_plain o (h r h1)).mono (by rw [List.length_map]; omega) (by omega)
theorem two_right_eq {y : Yd} (o : YdOk y) (u : Up y) {e n : Wd} (he : WdOk y e) (hn : WdOk y n) : m__law_two_right [rowD y, courtD y, wdD e, wdD n] = pure (.bl true) := by
  obtain ⟨r, hp, h1, h2⟩ := parting_ex o u he hn
  have due : decide (marksOf y n = marksOf y e) = decide (marksOf y e = marksOf y n) := by
    rw [Bool.eq_iff_iff, decide_eq_true_iff, decide_eq_true_iff]
    exact eq_comm
  have a1 := alike_eq o u he hn
  have a2 := alike_eq o u hn he
  rw [due] at a2
  have hr : r.isSome = !decide (marksOf y e = marksOf y n) := by
    cases r with
    | none => rw [decide_eq_true ((marks_iff o).mpr (h1 rfl))]; rfl
    | some q =>
      rw [decide_eq_false]
      · rfl
      · intro k
        obtain ⟨b, hb, P⟩ := h2 q rfl
        obtain ⟨p, hp, rfl⟩ := List.mem_map.mp hb
        obtain ⟨f1, f5⟩ := u.fn o hb
        exact P.unlike f1 f5 ((marks_iff o).mp k p hp)
  have dm := dEq_marks (marks_small o u he) (marks_small o u hn)
  generalize decide (marksOf y e = marksOf y n) = t at a1 a2 hr dm
  obtain ⟨z, hz⟩ := bls_repr t
  have hne : dNe (.str z) (.str z) = pure (.bl false) := by rw [dNe_str, decide_eq_true rfl]; rfl
  refine def_ret (st_seq (st_set (ev_bin (ev_call (ev_cons (ev_var rfl) (ev_cons (ev_var rfl) ev_nil)) rfl (marks_eq o u he)) (ev_call (ev_cons (ev_var rfl) (ev_cons (ev_var rfl) ev_nil)) rfl (marks_eq o u hn)) dm)) (st_seq (st_set (ev_lst (ev_cons (ev_call (ev_cons (ev_var rfl) (ev_cons (ev_var rfl) (ev_cons (ev_var rfl) ev_nil))) rfl a1) (ev_cons (ev_call (ev_cons (ev_var rfl) (ev_cons (ev_var rfl) (ev_cons (ev_var rfl) ev_nil))) rfl a2) (ev_cons (ev_callK (ev_cons (ev_var rfl) (ev_cons (ev_var rfl) (ev_cons (ev_var rfl) ev_nil))) rfl a1) ev_nil))) rfl)) (st_seq (st_iff (ev_tB (ev_bin (ev_un (ev_var rfl) hz) (ev_un (x := .lst [.bl t, .bl t, .bl t]) (ev_bin (ev_lst (ev_cons (x := .bl t) (ev_var rfl) ev_nil) rfl) ev_c rfl) hz) hne)) rfl st_nx) (st_seq (st_set (ev_callD (ev_cons (ev_var rfl) (ev_cons (ev_var rfl) (ev_cons (ev_var rfl) ev_nil))) rfl hp)) ?_))))
  cases r with
  | none =>
    have ht : t = true := by
      have : false = !t := hr
      cases t with
      | true => rfl
      | false => cases this
    subst ht
    refine st_seqr (st_ift (ev_tOr (t1 := true) (t2 := true) (ev_tB (ev_bin (x := optD none) (ev_var rfl) ev_c (optD_isN' none))) fun z => nomatch z) rfl (st_ret (ev_and (t1 := true) (t2 := true) (ev_var rfl) fun _ => ev_bin (x := optD none) (ev_var rfl) ev_c (optD_isN' none))))
  | some q =>
    have ht : t = false := by
      have : true = !t := hr
      cases t with
      | true => cases this
      | false => rfl
    subst ht
    obtain ⟨b, hb, P⟩ := h2 q rfl
    obtain ⟨qo, ql⟩ := parts_ok hb P
    obtain ⟨rs, w, u1, u2, t1, t2, une⟩ := parts_tell hb P
    have l1 := law_told_eq o he qo ql (d := .ln (q.map wgD)) rfl
    have l2 := law_told_eq o hn qo ql (d := .ln (q.map wgD)) rfl
    have ro : ∀ r ∈ rs ++ [⟨w, u1⟩], RwOk y r := by rw [← t1]; exact tell_ok qo
    have ro2 : ∀ r ∈ rs ++ [⟨w, u2⟩], RwOk y r := by rw [← t2]; exact tell_ok qo
    have rl : rs.length ≤ 1000 := by
      have := tell_length (wt := e.wt) (st := fnOf y.bs) q e.g
      rw [t1, List.length_append] at this
      omega
    rw [t1, List.map_append] at l1
    rw [t2, List.map_append] at l2
    have ul1 : unl (.lst (rs.map rwD ++ [rwD ⟨w, u1⟩])) = true := by
      have := unl_rws (rs ++ [⟨w, u1⟩])
      rw [List.map_append] at this
      simp only [unl]
      exact this
    have ul2 : unl (.lst (rs.map rwD ++ [rwD ⟨w, u2⟩])) = true := by
      have := unl_rws (rs ++ [⟨w, u2⟩])
      rw [List.map_append] at this
      simp only [unl]
      exact this
    refine st_seq (st_iff (ev_tOr (t1 := false) (t2 := false) (ev_tB (ev_bin (x := optD (some q)) (ev_var rfl) ev_c (optD_isN' _))) fun _ => ev_tB (ev_var rfl)) rfl st_nx) ?_
    refine st_seq (st_par2 (ev_callL (ev_cons (ev_var rfl) (ev_cons (ev_var rfl) (ev_lend rfl ev_nil))) rfl l1 ul1) (ev_callL (ev_cons (ev_var rfl) (ev_cons (ev_var rfl) (ev_lend rfl ev_nil))) rfl l2 ul2)) ?_
    refine st_seq (st_set (x := .lst (q.map wgD)) (ev_un (x := .lst (q.map wgD)) (ev_var rfl) rfl)) (st_seq (st_clrL rfl) (st_seq (st_iff (ev_tB (ev_bin (ev_callD (ev_cons (ev_var rfl) (ev_cons (ev_var rfl) (ev_cons (ev_var rfl) ev_nil))) rfl hp) (ev_var rfl) (dNe_self rfl (wgs_plain o qo ql) (by decide)))) rfl st_nx) ?_))
    exact st_ret (ev_and (t1 := true) (t2 := true) (ev_bin (ev_sl (x := .lst (rs.map rwD ++ [rwD ⟨w, u1⟩])) (ev_var rfl) ev_oNone (ev_oSome (ev_neg ev_c)) (cut_last _ _)) (ev_sl (x := .lst (rs.map rwD ++ [rwD ⟨w, u2⟩])) (ev_var rfl) ev_oNone (ev_oSome (ev_neg ev_c)) (cut_last _ _)) (dEq_self rfl (rws_plain o (fun r hr => ro r (List.mem_append_left _ hr)) rl) (by decide))) fun _ => ev_bin (ev_bin (x := .lst (rs.map rwD ++ [rwD ⟨w, u1⟩])) (ev_var rfl) (ev_neg ev_c) (at_last _ _)) (ev_bin (x := .lst (rs.map rwD ++ [rwD ⟨w, u2⟩])) (ev_var rfl) (ev_neg ev_c) (at_last _ _)) (dNe_rw o (ro _ (by simp)) (ro2 _ (by simp)) une))
end Cm
end
section
set_option Elab.async false
set_option linter.all false
set_option maxRecDepth 100000
set_option maxHeartbeats 400000
/-! the law's draws -/
namespace Cm
open PySem PySem.Spec PyProof.Rows L2 Mir
def upY (y : Yd) : Yd := { y with bs := y.bs.map fun p => (p.1, absI p.2) }
theorem upY_bn (y : Yd) : (upY y).bs.map (·.1) = y.bs.map (·.1) := by
  show (y.bs.map fun p => (p.1, absI p.2)).map (·.1) = _
  rw [List.map_map]
  rfl
theorem upY_ok {y : Yd} (o : YdOk y) : YdOk (upY y) ∧ Up (upY y) := by
  have l : (upY y).bs.length = y.bs.length := List.length_map ..
  have st : ∀ p ∈ (upY y).bs, 0 < p.2 ∧ p.2 ≤ 5 := fun p hp => by
    obtain ⟨q, hq, rfl⟩ := List.mem_map.mp hp
    have := o.st q hq
    show 0 < absI q.2 ∧ absI q.2 ≤ 5
    unfold absI
    split <;> omega
  exact ⟨{ n1 := o.n1, n8 := o.n8, nk := o.nk, nd := o.nd, b1 := by rw [l]; exact o.b1, b3 := by rw [l]; exact o.b3
           bk := fun p hp => by
             obtain ⟨q, hq, rfl⟩ := List.mem_map.mp hp
             exact o.bk q hq
           bd := by rw [upY_bn]; exact o.bd
           st := fun p hp => by have := st p hp; omega
           m1 := o.m1, m2 := o.m2, l1 := o.l1, l2 := o.l2, tu := by rw [l]; exact o.tu }, fun p hp => (st p hp).1⟩
theorem law_up_eq {y : Yd} (o : YdOk y) : m__law_up [rowD y] = pure (rowD (upY y)) := by
  have hz : (1000 : Nat) ≤ sizeLine := by decide
  have b3 := o.b3
  refine def_ret (st_ret (ev_bin (x := .tup [.lst (namesD y.ns), .lst (beamsD (upY y).bs)]) (y := .tup [.int y.mo, .int y.le]) (ev_bin (x := .tup [.lst (namesD y.ns)]) (y := .tup [.lst (beamsD (upY y).bs)]) (ev_sl (x := rowD y) (ev_var rfl) ev_oNone (ev_oSome ev_c) rfl) (ev_tup (ev_cons (ev_lc (ys := beamsD (upY y).bs) (ev_iOn (xs := beamsD y.bs) (ev_bin (x := rowD y) (ev_var rfl) ev_c rfl) rfl) ?_) ev_nil) rfl) rfl) (ev_sl (x := rowD y) (ev_var rfl) (ev_oSome ev_c) ev_oNone rfl) rfl))
  rw [lc_mapT beamD (fun p => beamD (p.1, absI p.2)) y.bs [] (fun p hp => ⟨_, rfl, rfl, ev_tup (ev_cons (x := .str p.1) (ev_var rfl) (ev_cons (x := .int (absI p.2)) (ev_un (x := .int p.2) (ev_var rfl) rfl) ev_nil)) rfl⟩) (by simp; omega), List.nil_append]
  show pure (y.bs.map fun p => beamD (p.1, absI p.2)) = (pure ((y.bs.map fun p => (p.1, absI p.2)).map beamD) : M (List D))
  rw [List.map_map]
  rfl
theorem turn_dic' {ks : List Str} {f : Str → Int} (nd : ks.Nodup) {env : Ev} {i : Nat} (h : env[i]? = some (some (.dic (dOf ks f)))) : eUn dDict (eUn dRev (eUn dItL (eVar i))) env = pure (.dic (dOf ks.reverse f)) := by
  have e : eUn dDict (eUn dRev (eUn dItL (eVar i))) env = eUn dDict (eUn dRev (eUn dItL (eVar 1))) [none, some (.dic (dOf ks f))] := by
    unfold eUn
    rw [ev_var h, ev_var (i := 1) (env := [none, some (.dic (dOf ks f))]) rfl]
  rw [e]
  exact turn_dic nd rfl
/-- a test drawn -/
theorem dr_tB {m : Ev → M D} {env : Ev} {k : Nat} (h : Dr k (m env) fun x => ∃ b, x = .bl b) : Dr k (tB' m env) fun _ => True := by
  unfold tB'
  refine Dr.bind (k2 := 0) h (fun x ⟨b, e⟩ => ?_) (Nat.le_refl _)
  subst e
  exact Dr.pure trivial
theorem turned_dr {y : Yd} (o : YdOk y) {w : Wd} (h : WdOk y w) : Dr 1 (m__law_turned [.st, wdD w]) fun x => ∃ w : Wd, WdOk y w ∧ x = wdD w := by
  have n1 : w.ks.Nodup := h.kp.nodup_iff.mpr o.nd
  have n2 : w.bk.Nodup := h.bp.nodup_iff.mpr o.bd
  refine dr_def ?_
  show Dr 1 (b__law_turned [some .st, some (wdD w), none]) _
  unfold b__law_turned cSeq
  refine Dr.bind (k1 := 1) (k2 := 0) (P := fun c => c = .ret (wdD w) ∨ c = .nx [some .st, some (wdD w), none]) (dr_cif (k1 := 1) (k2 := 0) (B := fun _ => True) (dr_tB (dr_binR (dr_next (n := 3) (by decide) (by decide) ev_c rfl) ev_c fun x ⟨i, e, _⟩ => by subst e; exact ⟨_, dGt_int _ _, _, rfl⟩)) (fun _ => dr_eq (st_ret (ev_var rfl)) (.inl rfl)) (fun _ => dr_eq st_nx (.inr rfl)) (by decide)) (fun c hc => ?_) (by decide)
  rcases hc with e | e
  · subst e
    exact Dr.pure ⟨_, rfl, w, h, rfl⟩
  · subst e
    refine dr_eq (x := .ret (wdD w.turned)) ?_ ⟨_, rfl, w.turned, h.turned, rfl⟩
    show cRet (eUn dTuple (eLc (iOn dIt (eVar 1)) [2] (gN 2) nYes (eUn dDict (eUn dRev (eUn dItL (eVar 2)))))) [some .st, some (wdD w), none] = _
    refine st_ret (ev_un (x := .lst [.dic (dOf w.ks.reverse w.f), .dic (dOf w.bk.reverse w.g)]) (ev_lc (ev_iOn (x := wdD w) (ev_var rfl) rfl) ?_) rfl)
    simp only [lcGo, gN, nYes, pure_bind', if_true]
    rw [turn_dic' n1 rfl, pure_bind', guard_of (show decide (([] : List D).length < sizeLine) = true from rfl), turn_dic' n2 rfl, pure_bind']
    rfl
theorem dMin_int (i j : Int) : dMin (.int i) (.int j) = pure (.int (if j < i then j else i)) := rfl
theorem dMax_int (i j : Int) : dMax (.int i) (.int j) = pure (.int (if j > i then j else i)) := rfl
abbrev nE (y : Yd) (v : Wd) (a2 : Option D) (q by' : Int) (fa : Str) (a8 a9 : Option D) : Ev := [some .st, some (rowD y), a2, some (.int q), some (.dic (dOf v.ks v.f)), some (.dic (dOf v.bk v.g)), some (.int by'), some (.str fa), a8, a9]
theorem near_names {y : Yd} (o : YdOk y) {v : Wd} (vo : WdOk y v) (a2 : Option D) (q by' : Int) (fa : Str) (a8 a9 : Option D) :
    ∃ (v' : Wd) (b8 : Option D), WdOk y v' ∧ forGo (gN 8) (cIf (tAnd' (tB' (eBin dLt (eVar 3) (eC (.int 4)))) (tOr' (tB' (eBin dLt (eVar 3) (eC (.int 3)))) (tB' (eBin dEq (eVar 8) (eVar 7))))) (cSetD 4 (eVar 8) (eBin dMin (eBin dAt (eVar 1) (eC (.int 2))) (eBin dMax (eC (.int 1)) (eBin dAdd (eBin dAt (eVar 4) (eVar 8)) (eVar 6))))) cNx) (y.ns.map D.str) (nE y v a2 q by' fa a8 a9) = pure (.nx (nE y v' a2 q by' fa b8 a9)) := by
  have hz : (1000 : Nat) < sizeLine := by decide
  have n8 := o.n8
  have m1 := o.m1
  have key := for_brT (tg := gN 8) (b := cIf (tAnd' (tB' (eBin dLt (eVar 3) (eC (.int 4)))) (tOr' (tB' (eBin dLt (eVar 3) (eC (.int 3)))) (tB' (eBin dEq (eVar 8) (eVar 7))))) (cSetD 4 (eVar 8) (eBin dMin (eBin dAt (eVar 1) (eC (.int 2))) (eBin dMax (eC (.int 1)) (eBin dAdd (eBin dAt (eVar 4) (eVar 8)) (eVar 6))))) cNx) D.str (fun _ env => ∃ (v' : Wd) (b8 : Option D), WdOk y v' ∧ env = nE y v' a2 q by' fa b8 a9) (fun _ => False) y.ns [] (nE y v a2 q by' fa a8 a9) ⟨v, a8, vo, rfl⟩ fun x hx done env hJ => by
    obtain ⟨v', b8, vo', rfl⟩ := hJ
    have hk : x ∈ v'.ks := vo'.kp.mem_iff.mpr hx
    have lk : v'.ks.length = y.ns.length := vo'.kp.length_eq
    have tst : tAnd' (tB' (eBin dLt (eVar 3) (eC (.int 4)))) (tOr' (tB' (eBin dLt (eVar 3) (eC (.int 3)))) (tB' (eBin dEq (eVar 8) (eVar 7)))) (nE y v' a2 q by' fa (some (.str x)) a9) = pure (decide (q < 4) && (decide (q < 3) || decide (x = fa))) :=
      ev_tAnd (ev_tB (ev_bin (ev_var rfl) ev_c (dLt_int _ _))) fun _ => ev_tOr (ev_tB (ev_bin (ev_var rfl) ev_c (dLt_int _ _))) fun _ => ev_tB (ev_bin (ev_var rfl) (ev_var rfl) (dEq_str _ _))
    refine ⟨nE y v' a2 q by' fa (some (.str x)) a9, rfl, .inl ?_⟩
    by_cases c : (decide (q < 4) && (decide (q < 3) || decide (x = fa))) = true
    · obtain ⟨z, hz1, hz2, hz3⟩ : ∃ z : Int, eBin dMin (eBin dAt (eVar 1) (eC (.int 2))) (eBin dMax (eC (.int 1)) (eBin dAdd (eBin dAt (eVar 4) (eVar 8)) (eVar 6))) (nE y v' a2 q by' fa (some (.str x)) a9) = pure (.int z) ∧ 1 ≤ z ∧ z ≤ y.mo := by
        refine ⟨_, ev_bin (x := .int y.mo) (ev_bin (x := rowD y) (ev_var rfl) ev_c rfl) (ev_bin ev_c (ev_bin (ev_bin (ev_var rfl) (ev_var rfl) (dAt_dOf hk)) (ev_var rfl) (dAdd_int _ _)) (dMax_int _ _)) (dMin_int _ _), ?_, ?_⟩ <;> split <;> (try split) <;> omega
      refine ⟨_, st_ift tst c (st_setD hz1 (ev_var rfl) rfl rfl (by rw [dOf_length]; omega)), { v' with f := updF v'.f x z }, some (.str x), vo'.updF hz2 hz3, ?_⟩
      rw [putD_dOf hk]
      rfl
    · exact ⟨_, st_iff tst (by simpa using c) st_nx, v', _, vo', rfl⟩
  rcases key with ⟨e', h, v', b8, vo', rfl⟩ | ⟨_, _, k⟩
  · exact ⟨v', b8, vo', h⟩
  · exact k.elim
theorem near_beams {y : Yd} (o : YdOk y) {v : Wd} (vo : WdOk y v) (a2 : Option D) (q by' : Int) (fa : Str) (a8 a9 : Option D) :
    ∃ (v' : Wd) (b8 b9 : Option D), WdOk y v' ∧ forGo (gT (gsCons (gN 8) (gsCons (gN 9) gsNil))) (cIf (tB' (eBin (dIn false) (eVar 3) (eTup (aCons (eC (.int 2)) (aCons (eC (.int 4)) aNil))))) (cSetD 5 (eVar 8) (eBin dMin (eBin dAt (eVar 1) (eC (.int 3))) (eBin dMax (eNeg (eBin dAt (eVar 1) (eC (.int 3)))) (eBin dSub (eBin dAt (eVar 5) (eVar 8)) (eVar 6))))) cNx) (y.bs.map beamD) (nE y v a2 q by' fa a8 a9) = pure (.nx (nE y v' a2 q by' fa b8 b9)) := by
  have hz : (1000 : Nat) < sizeLine := by decide
  have b3 := o.b3
  have l1 := o.l1
  obtain ⟨t, ht⟩ : ∃ t, dIn false (.int q) (.tup [.int 2, .int 4]) = pure (.bl t) := ⟨_, rfl⟩
  have key := for_brT (tg := gT (gsCons (gN 8) (gsCons (gN 9) gsNil))) (b := cIf (tB' (eBin (dIn false) (eVar 3) (eTup (aCons (eC (.int 2)) (aCons (eC (.int 4)) aNil))))) (cSetD 5 (eVar 8) (eBin dMin (eBin dAt (eVar 1) (eC (.int 3))) (eBin dMax (eNeg (eBin dAt (eVar 1) (eC (.int 3)))) (eBin dSub (eBin dAt (eVar 5) (eVar 8)) (eVar 6))))) cNx) beamD (fun _ env => ∃ (v' : Wd) (b8 b9 : Option D), WdOk y v' ∧ env = nE y v' a2 q by' fa b8 b9) (fun _ => False) y.bs [] (nE y v a2 q by' fa a8 a9) ⟨v, a8, a9, vo, rfl⟩ fun x hx done env hJ => by
    obtain ⟨v', b8, b9, vo', rfl⟩ := hJ
    have hb : x.1 ∈ y.bn := List.mem_map.mpr ⟨x, hx, rfl⟩
    have hk : x.1 ∈ v'.bk := vo'.bp.mem_iff.mpr hb
    have lk : v'.bk.length = y.bs.length := by rw [vo'.bp.length_eq]; exact List.length_map ..
    refine ⟨nE y v' a2 q by' fa (some (.str x.1)) (some (.int x.2)), rfl, .inl ?_⟩
    have tst : tB' (eBin (dIn false) (eVar 3) (eTup (aCons (eC (.int 2)) (aCons (eC (.int 4)) aNil)))) (nE y v' a2 q by' fa (some (.str x.1)) (some (.int x.2))) = pure t := ev_tB (ev_bin (ev_var rfl) (ev_tup (ev_cons ev_c (ev_cons ev_c ev_nil)) rfl) ht)
    cases t with
    | true =>
      obtain ⟨z, hz1, hz2, hz3⟩ : ∃ z : Int, eBin dMin (eBin dAt (eVar 1) (eC (.int 3))) (eBin dMax (eNeg (eBin dAt (eVar 1) (eC (.int 3)))) (eBin dSub (eBin dAt (eVar 5) (eVar 8)) (eVar 6))) (nE y v' a2 q by' fa (some (.str x.1)) (some (.int x.2))) = pure (.int z) ∧ -y.le ≤ z ∧ z ≤ y.le := by
        refine ⟨_, ev_bin (x := .int y.le) (ev_bin (x := rowD y) (ev_var rfl) ev_c rfl) (ev_bin (ev_neg (ev_bin (x := rowD y) (ev_var rfl) ev_c rfl)) (ev_bin (ev_bin (ev_var rfl) (ev_var rfl) (dAt_dOf hk)) (ev_var rfl) (dSub_int _ _)) (dMax_int _ _)) (dMin_int _ _), ?_, ?_⟩ <;> split <;> (try split) <;> omega
      refine ⟨_, st_ift tst rfl (st_setD hz1 (ev_var rfl) rfl rfl (by rw [dOf_length]; omega)), { v' with g := updF v'.g x.1 z }, some (.str x.1), some (.int x.2), vo'.updG hz2 hz3, ?_⟩
      rw [putD_dOf hk]
      rfl
    | false => exact ⟨_, st_iff tst rfl st_nx, v', _, _, vo', rfl⟩
  rcases key with ⟨e', h, v', b8, b9, vo', rfl⟩ | ⟨_, _, k⟩
  · exact ⟨v', b8, b9, vo', h⟩
  · exact k.elim
theorem near_dr {y : Yd} (o : YdOk y) {w : Wd} (h : WdOk y w) : Dr 30 (m__law_near [.st, rowD y, wdD w]) fun x => ∃ w : Wd, WdOk y w ∧ x = wdD w := by
  have n1 := o.n1
  have n8 := o.n8
  have b1 := o.b1
  have b3 := o.b3
  have lns : (namesD y.ns).length = y.ns.length := List.length_map ..
  obtain ⟨p0, hp0⟩ : ∃ p, y.bs[0]? = some p := ⟨y.bs[0], List.getElem?_eq_getElem (by omega)⟩
  have at0 : dAt (.lst (beamsD y.bs)) (.int 0) = pure (beamD p0) := by
    have k := at_map beamD y.bs 0 (by omega)
    have : y.bs[0] = p0 := by
      have := List.getElem?_eq_getElem (l := y.bs) (i := 0) (by omega)
      rw [hp0] at this
      exact (Option.some.inj this).symm
    rw [this] at k
    exact k
  have st0 : ∀ env : Ev, env[1]? = some (some (rowD y)) → eBin dAt (eBin dAt (eBin dAt (eVar 1) (eC (.int 1))) (eC (.int 0))) (eC (.int 1)) env = pure (.int p0.2) := fun env he => ev_bin (ev_bin (ev_bin (x := rowD y) (ev_var he) ev_c rfl) ev_c at0) ev_c rfl
  refine dr_def ?_
  refine dr_set (k1 := 1) (k2 := 29) (dr_next (n := 5) (by decide) (by decide) ev_c rfl) ?_ (by decide)
  intro x ⟨q, e, q0, q5⟩
  subst e
  show Dr 29 (cSeq _ _ [some .st, some (rowD y), some (wdD w), some (.int q), none, none, none, none, none, none]) _
  by_cases hq : q = 0
  · have e : ∀ (a : Ev → M Ctl) (b : Ev → M Ctl) (env : Ev), env[3]? = some (some (.int q)) → cIf (tB' (eBin dEq (eVar 3) (eC (.int 0)))) a b env = a env := fun a b env he => st_ift (t := decide (q = 0)) (ev_tB (ev_bin (ev_var he) ev_c (dEq_int _ _))) (decide_eq_true hq) rfl
    unfold cSeq
    rw [e _ _ _ rfl]
    refine Dr.bind (k1 := 20) (k2 := 0) (dr_ret (dr_call (ev_cons (ev_var rfl) (ev_cons (ev_var rfl) ev_nil)) rfl (world_dr o))) (fun c ⟨x, e, p⟩ => ?_) (by decide)
    subst e
    exact Dr.pure ⟨x, rfl, p⟩
  refine dr_seq (st_iff (t := decide (q = 0)) (ev_tB (ev_bin (ev_var rfl) ev_c (dEq_int _ _))) (decide_eq_false hq) st_nx) ?_
  refine dr_seq (st_par2 (x := .dic (dOf w.ks w.f)) (y := .dic (dOf w.bk w.g)) (ev_un (ev_bin (x := wdD w) (ev_var rfl) ev_c rfl) rfl) (ev_un (ev_bin (x := wdD w) (ev_var rfl) ev_c rfl) rfl)) ?_
  refine dr_set (k1 := 1) (k2 := 28) (P := fun x => ∃ by' : Int, x = .int by') ((dr_pick (xs := [.int 1, .int (-1), .int p0.2, .int (-p0.2), .int 2]) (by simp) (by simp) (ev_lst (ev_cons ev_c (ev_cons (ev_neg ev_c) (ev_cons (st0 _ rfl) (ev_cons (ev_neg (st0 _ rfl)) (ev_cons ev_c ev_nil))))) rfl) rfl).imp (Nat.le_refl _) fun x hx => ?_) ?_ (by decide)
  · simp only [List.mem_cons, List.not_mem_nil, or_false] at hx
    rcases hx with e | e | e | e | e <;> exact ⟨_, e⟩
  intro x ⟨by', e⟩
  subst e
  refine dr_set (k1 := 1) (k2 := 27) (P := fun x => ∃ k : Str, x = .str k) ((dr_pick (xs := namesD y.ns) (by intro e; rw [e] at lns; simp at lns; omega) (by omega) (ev_bin (x := rowD y) (ev_var rfl) ev_c rfl) rfl).imp (Nat.le_refl _) fun x hx => ?_) ?_ (by decide)
  · obtain ⟨k, hk, rfl⟩ := List.mem_map.mp hx
    exact ⟨k, rfl⟩
  intro x ⟨fa, e⟩
  subst e
  obtain ⟨v1, b8, vo1, g1⟩ := near_names o h (some (wdD w)) q by' fa none none
  obtain ⟨v2, c8, c9, vo2, g2⟩ := near_beams o vo1 (some (wdD w)) q by' fa b8 none
  exact dr_seq (st_for (ev_iOn (xs := namesD y.ns) (ev_bin (x := rowD y) (ev_var rfl) ev_c rfl) rfl) g1) (dr_seq (st_for (ev_iOn (xs := beamsD y.bs) (ev_bin (x := rowD y) (ev_var rfl) ev_c rfl) rfl) g2) (dr_ret (dr_eq (ev_tup (ev_cons (ev_var rfl) (ev_cons (ev_var rfl) ev_nil)) rfl) ⟨v2, vo2, rfl⟩)))
end Cm
end
section
set_option Elab.async false
set_option linter.all false
set_option maxRecDepth 100000
set_option maxHeartbeats 400000
/-! the law of worlds alike for ever -/
namespace Cm
open PySem PySem.Spec PyProof.Rows L2 Mir
theorem Shows.lst3 {a b c : D} {w e : Nat} (ha : Shows a w e) (hb : Shows b w e) (hc : Shows c w e) : Shows (.lst [a, b, c]) (3 * (w + 1)) (e + 1) := by
  obtain ⟨p, a1, a2, a3, a4, a5⟩ := ha
  obtain ⟨q, b1, b2, b3, b4, b5⟩ := hb
  obtain ⟨r, c1, c2, c3, c4, c5⟩ := hc
  refine ⟨.list [p, q, r], by simp only [shP, shPs, a1, b1, c1, Option.map_some], by simp only [PyData.showable, PyData.showableAll, a2, b2, c2]; rfl, by simp only [PyData.leavesShort, PyData.leavesShortAll, a3, b3, c3]; rfl, ?_, ?_⟩
  · simp only [PyData.weight, PyData.weightAll]; omega
  · simp only [PyData.depth, PyData.depthAll]; omega
theorem three_repr {y : Yd} (o : YdOk y) {a b c : Wd} (ha : WdOk y a) (hb : WdOk y b) (hc : WdOk y c) : ∃ z, dRepr (.lst [wdD a, wdD b, wdD c]) = pure (.str z) := by
  have p1 := wd_shows o ha
  have p2 := wd_shows o hb
  have p3 := wd_shows o hc
  refine (p1.lst3 p2 p3).repr rfl ?_ (by decide) (by decide)
  unfold goodR
  rw [Bool.or_eq_true]
  refine .inr ?_
  show (![wdD a, wdD b, wdD c].isEmpty && [wdD a, wdD b, wdD c].all good1) = true
  rw [List.all_cons, List.all_cons, List.all_cons, p1.good (noL_wd a), p2.good (noL_wd b), p3.good (noL_wd c)]
  rfl
abbrev E12 (x0 a2 a3 a4 a5 a6 a7 a8 a9 a10 a11 : Option D) : Ev := [x0, some .st, a2, a3, a4, a5, a6, a7, a8, a9, a10, a11]
theorem count_bls (z : Bool) : ∀ us : List Bool, ((us.map D.bl).countP fun x => eqV (valD x) (valD (.bl z))) = us.count z
  | [] => rfl
  | u :: us => by
    rw [List.map_cons, List.countP_cons, count_bls z us, List.count_cons]
    cases u <;> cases z <;> rfl
theorem three_count {α : Type} [DecidableEq α] (a b c : α) : dCount (.lst [.bl (decide (a = b)), .bl (decide (b = c)), .bl (decide (a = c))]) (.bl true) = pure (.int (([decide (a = b), decide (b = c), decide (a = c)].count true : Nat) : Int)) ∧ [decide (a = b), decide (b = c), decide (a = c)].count true ≠ 2 := by
  constructor
  · have e := count_bls true [decide (a = b), decide (b = c), decide (a = c)]
    show guardB true (pure (D.int ((([decide (a = b), decide (b = c), decide (a = c)].map D.bl).countP fun x => eqV (valD x) (valD (.bl true)) : Nat) : Int))) = _
    rw [e]
    rfl
  · have f1 : decide (a = b) = true → decide (b = c) = true → decide (a = c) = true := fun h k => decide_eq_true ((of_decide_eq_true h).trans (of_decide_eq_true k))
    have f2 : decide (a = b) = true → decide (a = c) = true → decide (b = c) = true := fun h k => decide_eq_true ((of_decide_eq_true h).symm.trans (of_decide_eq_true k))
    have f3 : decide (b = c) = true → decide (a = c) = true → decide (a = b) = true := fun h k => decide_eq_true ((of_decide_eq_true k).trans (of_decide_eq_true h).symm)
    generalize decide (a = b) = p at f1 f2 f3
    generalize decide (b = c) = q at f1 f2 f3
    generalize decide (a = c) = r at f1 f2 f3
    cases p <;> cases q <;> cases r <;> first | decide | (cases f1 rfl rfl) | (cases f2 rfl rfl) | (cases f3 rfl rfl)
abbrev lwI : Ev → M Ctl := cIf (tNot' (tB' (eCall 4 m__law_two_right (aCons (eVar 3) (aCons (eVar 4) (aCons (eVar 9) (aCons (eVar 10) aNil))))))) (cRet (eC (.bl false))) cNx
theorem pairs_go {y : Yd} (o : YdOk y) (u : Up y) (x0 a2 a5 a6 a7 a8 a9 a10 a11 : Option D) (ps : List (Wd × Wd)) (hp : ∀ p ∈ ps, WdOk y p.1 ∧ WdOk y p.2) :
    ∃ b9 b10, forGo (gT (gsCons (gN 9) (gsCons (gN 10) gsNil))) lwI (ps.map fun p => D.tup [wdD p.1, wdD p.2]) (E12 x0 a2 (some (rowD y)) (some (courtD y)) a5 a6 a7 a8 a9 a10 a11) = pure (.nx (E12 x0 a2 (some (rowD y)) (some (courtD y)) a5 a6 a7 a8 b9 b10 a11)) := by
  have key := for_brT (tg := gT (gsCons (gN 9) (gsCons (gN 10) gsNil))) (b := lwI) (fun p : Wd × Wd => D.tup [wdD p.1, wdD p.2]) (fun _ env => ∃ b9 b10, env = E12 x0 a2 (some (rowD y)) (some (courtD y)) a5 a6 a7 a8 b9 b10 a11) (fun _ => False) ps [] (E12 x0 a2 (some (rowD y)) (some (courtD y)) a5 a6 a7 a8 a9 a10 a11) ⟨_, _, rfl⟩ fun p hm done env hJ => by
    obtain ⟨b9, b10, rfl⟩ := hJ
    exact ⟨E12 x0 a2 (some (rowD y)) (some (courtD y)) a5 a6 a7 a8 (some (wdD p.1)) (some (wdD p.2)) a11, rfl, .inl ⟨_, st_iff (t := false) (ev_tNot (t := true) (ev_tB (ev_call (ev_cons (ev_var rfl) (ev_cons (ev_var rfl) (ev_cons (ev_var rfl) (ev_cons (ev_var rfl) ev_nil)))) rfl (two_right_eq o u (hp p hm).1 (hp p hm).2)))) rfl st_nx, _, _, rfl⟩⟩
  rcases key with ⟨e', h, b9, b10, rfl⟩ | ⟨_, _, k⟩
  · exact ⟨b9, b10, h⟩
  · exact k.elim
abbrev lwB : Ev → M Ctl := cSeq (cSet 3 (eCall 1 m__law_up (aCons (eCall 5 m__law_row (aCons (eVar 1) (aCons (eC (.int 3)) (aCons (eC (.int 8)) (aCons (eC (.int 100)) (aCons (eC (.int 9)) aNil)))))) aNil))) (cSeq (cPar2 4 5 (eMk "Yard" 2 2 m_Yard_init (aCons (eBin dAt (eVar 3) (eC (.int 0))) (aCons (eBin dAt (eVar 3) (eC (.int 1))) aNil)) (aCons (eBin dAt (eVar 3) (eC (.int 2))) (aCons (eBin dAt (eVar 3) (eC (.int 3))) aNil))) (eCall 2 m__law_world (aCons (eVar 1) (aCons (eVar 3) aNil)))) (cSeq (cSet 6 (eCall 2 m__law_turned (aCons (eVar 1) (aCons (eCall 3 m__law_near (aCons (eVar 1) (aCons (eVar 3) (aCons (eVar 5) aNil)))) aNil)))) (cSeq (cSet 7 (eCall 3 m__law_near (aCons (eVar 1) (aCons (eVar 3) (aCons (eVar 6) aNil))))) (cSeq (cSet 8 (eUn dRepr (eLst (aCons (eVar 5) (aCons (eVar 6) (aCons (eVar 7) aNil)))))) (cSeq (cFor (iOn dIt (eLst (aCons (eTup (aCons (eVar 5) (aCons (eVar 6) aNil))) (aCons (eTup (aCons (eVar 6) (aCons (eVar 7) aNil))) (aCons (eTup (aCons (eVar 5) (aCons (eVar 7) aNil))) (aCons (eTup (aCons (eVar 5) (aCons (eVar 5) aNil))) aNil)))))) (gT (gsCons (gN 9) (gsCons (gN 10) gsNil))) lwI) (cSeq (cSet 11 (eLst (aCons (eCall 3 m_alike (aCons (eVar 4) (aCons (eVar 5) (aCons (eVar 6) aNil)))) (aCons (eCall 3 m_alike (aCons (eVar 4) (aCons (eVar 6) (aCons (eVar 7) aNil)))) (aCons (eCall 3 m_alike (aCons (eVar 4) (aCons (eVar 5) (aCons (eVar 7) aNil)))) aNil))))) (cIf (tOr' (tB' (eBin dEq (eBin dCount (eVar 11) (eC (.bl true))) (eC (.int 2)))) (tB' (eBin dNe (eUn dRepr (eLst (aCons (eVar 5) (aCons (eVar 6) (aCons (eVar 7) aNil))))) (eVar 8)))) (cRet (eC (.bl false))) cNx)))))))
theorem law_turn (x0 a2 a3 a4 a5 a6 a7 a8 a9 a10 a11 : Option D) : Dr 1000 (lwB (E12 x0 a2 a3 a4 a5 a6 a7 a8 a9 a10 a11)) fun c => ∃ e, c = .nx e ∧ ∃ a3 a4 a5 a6 a7 a8 a9 a10 a11, e = E12 x0 a2 a3 a4 a5 a6 a7 a8 a9 a10 a11 := by
  refine dr_set (k1 := 100) (k2 := 900) (P := fun x => ∃ y : Yd, YdOk y ∧ Up y ∧ x = rowD y) ?_ ?_ (by decide)
  · refine dr_callD (k1 := 100) (k2 := 0) (A := fun xs => ∃ y : Yd, YdOk y ∧ xs = [rowD y]) (dr_cons (k1 := 100) (k2 := 0) (P1 := fun x => ∃ y : Yd, YdOk y ∧ x = rowD y) (A2 := fun xs => xs = []) (dr_call (ev_cons (ev_var rfl) (ev_cons ev_c (ev_cons ev_c (ev_cons ev_c (ev_cons ev_c ev_nil))))) rfl row_dr) (fun _ _ => dr_nil rfl) (fun x xs ⟨y, o, e⟩ e2 => ⟨y, o, by rw [e, e2]⟩) (by decide)) (fun xs ⟨y, o, e⟩ => ?_) (by decide)
    subst e
    exact ⟨rfl, dr_eq (law_up_eq o) ⟨upY y, (upY_ok o).1, (upY_ok o).2, rfl⟩⟩
  intro x ⟨y, o, u, e⟩
  subst e
  refine dr_seqD (k1 := 20) (k2 := 800) (P := fun c => ∃ (w : Wd), WdOk y w ∧ c = .nx (E12 x0 a2 (some (rowD y)) (some (courtD y)) (some (wdD w)) a6 a7 a8 a9 a10 a11)) ?_ ?_ (by decide)
  · unfold cPar2
    refine Dr.bind (k1 := 0) (k2 := 20) (P := fun x => x = courtD y) (dr_eq (ev_mk (xs := [.lst (namesD y.ns), .lst (beamsD y.bs)]) (ys := [.int y.mo, .int y.le]) (ev_cons (ev_bin (x := rowD y) (ev_var rfl) ev_c rfl) (ev_cons (ev_bin (x := rowD y) (ev_var rfl) ev_c rfl) ev_nil)) (ev_cons (ev_bin (x := rowD y) (ev_var rfl) ev_c rfl) (ev_cons (ev_bin (x := rowD y) (ev_var rfl) ev_c rfl) ev_nil)) rfl (init_eq o)) rfl) (fun x e => ?_) (by decide)
    subst e
    refine Dr.bind (k1 := 20) (k2 := 0) (dr_call (ev_cons (ev_var rfl) (ev_cons (ev_var rfl) ev_nil)) rfl (world_dr o)) (fun x ⟨w, wo, e⟩ => ?_) (by decide)
    subst e
    exact Dr.pure ⟨w, wo, rfl⟩
  intro c ⟨w1, o1, e⟩
  refine ⟨_, e, ?_⟩
  refine dr_set (k1 := 40) (k2 := 700) (P := fun x => ∃ v : Wd, WdOk y v ∧ x = wdD v) ?_ ?_ (by decide)
  · refine dr_callD (k1 := 30) (k2 := 1) (A := fun xs => ∃ v : Wd, WdOk y v ∧ xs = [.st, wdD v]) (dr_consP (ev_var rfl) (dr_cons (k1 := 30) (k2 := 0) (P1 := fun x => ∃ v : Wd, WdOk y v ∧ x = wdD v) (A2 := fun xs => xs = []) (A := fun xs => ∃ v : Wd, WdOk y v ∧ xs = [wdD v]) (dr_call (ev_cons (ev_var rfl) (ev_cons (ev_var rfl) (ev_cons (ev_var rfl) ev_nil))) rfl (near_dr o o1)) (fun _ _ => dr_nil rfl) (fun x xs ⟨v, vo, e⟩ e2 => ⟨v, vo, by rw [e, e2]⟩) (by decide)) (fun xs ⟨v, vo, e⟩ => ⟨v, vo, by rw [e]⟩)) (fun xs ⟨v, vo, e⟩ => ?_) (by decide)
    subst e
    exact ⟨rfl, turned_dr o vo⟩
  intro x ⟨w2, o2, e⟩
  subst e
  refine dr_set (k1 := 30) (k2 := 600) (dr_call (ev_cons (ev_var rfl) (ev_cons (ev_var rfl) (ev_cons (ev_var rfl) ev_nil))) rfl (near_dr o o2)) ?_ (by decide)
  intro x ⟨w3, o3, e⟩
  subst e
  obtain ⟨z, hz⟩ := three_repr o o1 o2 o3
  refine dr_seq (st_set (ev_un (ev_lst (ev_cons (x := wdD w1) (ev_var rfl) (ev_cons (x := wdD w2) (ev_var rfl) (ev_cons (x := wdD w3) (ev_var rfl) ev_nil))) rfl) hz)) ?_
  obtain ⟨b9, b10, g⟩ := pairs_go o u x0 a2 (some (wdD w1)) (some (wdD w2)) (some (wdD w3)) (some (.str z)) a9 a10 a11 [(w1, w2), (w2, w3), (w1, w3), (w1, w1)] fun p hp => by
    simp only [List.mem_cons, List.not_mem_nil, or_false] at hp
    rcases hp with e | e | e | e <;> subst e
    · exact ⟨o1, o2⟩
    · exact ⟨o2, o3⟩
    · exact ⟨o1, o3⟩
    · exact ⟨o1, o1⟩
  refine dr_seq (st_for (ev_iOn (x := .lst ([(w1, w2), (w2, w3), (w1, w3), (w1, w1)].map fun p : Wd × Wd => D.tup [wdD p.1, wdD p.2])) (ev_lst (ev_cons (ev_tup (ev_cons (x := wdD w1) (ev_var rfl) (ev_cons (x := wdD w2) (ev_var rfl) ev_nil)) rfl) (ev_cons (ev_tup (ev_cons (x := wdD w2) (ev_var rfl) (ev_cons (x := wdD w3) (ev_var rfl) ev_nil)) rfl) (ev_cons (ev_tup (ev_cons (x := wdD w1) (ev_var rfl) (ev_cons (x := wdD w3) (ev_var rfl) ev_nil)) rfl) (ev_cons (ev_tup (ev_cons (x := wdD w1) (ev_var rfl) (ev_cons (x := wdD w1) (ev_var rfl) ev_nil)) rfl) ev_nil)))) rfl) rfl) g) ?_
  obtain ⟨c1, c2⟩ := three_count (marksOf y w1) (marksOf y w2) (marksOf y w3)
  refine dr_seq (st_set (ev_lst (ev_cons (ev_call (ev_cons (x := courtD y) (ev_var rfl) (ev_cons (x := wdD w1) (ev_var rfl) (ev_cons (x := wdD w2) (ev_var rfl) ev_nil))) rfl (alike_eq o u o1 o2)) (ev_cons (ev_call (ev_cons (x := courtD y) (ev_var rfl) (ev_cons (x := wdD w2) (ev_var rfl) (ev_cons (x := wdD w3) (ev_var rfl) ev_nil))) rfl (alike_eq o u o2 o3)) (ev_cons (ev_call (ev_cons (x := courtD y) (ev_var rfl) (ev_cons (x := wdD w1) (ev_var rfl) (ev_cons (x := wdD w3) (ev_var rfl) ev_nil))) rfl (alike_eq o u o1 o3)) ev_nil))) rfl)) ?_
  refine dr_eq (st_iff (ev_tOr (t1 := false) (t2 := false) (ev_tB (ev_bin (ev_bin (ev_var rfl) ev_c c1) ev_c ?_)) fun _ => ev_tB (ev_bin (ev_un (ev_lst (ev_cons (x := wdD w1) (ev_var rfl) (ev_cons (x := wdD w2) (ev_var rfl) (ev_cons (x := wdD w3) (ev_var rfl) ev_nil))) rfl) hz) (ev_var rfl) ?_)) rfl st_nx) ⟨_, rfl, _, _, _, _, _, _, _, _, _, rfl⟩
  · rw [dEq_int, decide_eq_false]
    intro k
    exact c2 (by omega)
  · rw [dNe_str, decide_eq_true rfl]; rfl
theorem law_runs (ns : List Int) : Dr 6000 (b_law (some (.ro (ns.map D.int)) :: some .st :: List.replicate 10 none)) fun c => c = .ret (.bl true) := by
  show Dr 6000 (b_law (E12 (some (.ro (ns.map D.int))) none none none none none none none none none none)) _
  refine dr_seqD (k1 := 5000) (k2 := 0) (P := fun c => ∃ e, c = .nx e) ?_ (fun c ⟨e, h⟩ => ⟨e, h, dr_eq (st_ret ev_c) rfl⟩) (by decide)
  obtain ⟨n, hn, hn5⟩ : ∃ n : Nat, (if (if (ns.length : Int) < 5 then (ns.length : Int) else 5) > 1 then (if (ns.length : Int) < 5 then (ns.length : Int) else 5) else 1) = (n : Int) ∧ n ≤ 5 := by
    by_cases a : (ns.length : Int) < 5
    · by_cases b : (ns.length : Int) > 1
      · exact ⟨ns.length, by rw [if_pos a, if_pos b], by omega⟩
      · exact ⟨1, by rw [if_pos a, if_neg b]; rfl, by omega⟩
    · exact ⟨5, by rw [if_neg a]; rfl, by omega⟩
  unfold cFor
  refine Dr.bind (k1 := 0) (k2 := 5000) (P := fun ds => ds = (List.range n).map fun (j : Nat) => D.int (0 + (j : Int))) (dr_eq (ev_iRange (ev_cons (x := .int (n : Int)) (ev_bin (x := .int 1) (y := .int (if (ns.length : Int) < 5 then (ns.length : Int) else 5)) ev_c (ev_bin (x := .int 5) (y := .int ns.length) ev_c (ev_un (ev_var rfl) ?_) (dMin_int _ _)) ?_) ev_nil) (range_eq n (by omega))) rfl) (fun ds e => ?_) (by decide)
  · show pure (D.int ((ns.map D.int).length : Nat)) = _
    rw [List.length_map]
  · rw [dMax_int, hn]
  subst e
  refine (for_dr (k := 1000) (fun _ env => ∃ a2 a3 a4 a5 a6 a7 a8 a9 a10 a11, env = E12 (some (.ro (ns.map D.int))) a2 a3 a4 a5 a6 a7 a8 a9 a10 a11) _ 0 _ ⟨none, none, none, none, none, none, none, none, none, none, rfl⟩ fun j x env hx ⟨a2, a3, a4, a5, a6, a7, a8, a9, a10, a11, e⟩ => ?_).imp (by simp; omega) fun c ⟨e', hc, _⟩ => ⟨e', hc⟩
  subst e
  exact ⟨_, rfl, (law_turn (some (.ro (ns.map D.int))) (some x) a3 a4 a5 a6 a7 a8 a9 a10 a11).imp (Nat.le_refl _) fun c ⟨e, hc, b3, b4, b5, b6, b7, b8, b9, b10, b11, h⟩ => ⟨e, hc, _, b3, b4, b5, b6, b7, b8, b9, b10, b11, h⟩⟩
theorem law_math (ns : List Int) : Wp (b_law (some (.ro (ns.map D.int)) :: some .st :: List.replicate 10 none) (begunD ns)) fun c _ => c = .ret (.bl true) :=
  ((law_runs ns).run (begunD ns) (DOk.begun ns) (show (0 : Int) + (6000 : Nat) ≤ 2 ^ 40 by decide)).imp fun c d ⟨_, _, h⟩ => h
end Cm
end
section
set_option Elab.async false
set_option linter.all false
set_option maxRecDepth 100000
set_option maxHeartbeats 400000
namespace K3
open PySem PySem.Spec PyProof.Rows L2 Mir Cm
def topS (i : Nat) : Stmt := PySem.Challenge.pw_wearybeams_k38_alike_for_ever.main.body.getD i (.Pass ⟨0, 0, 0, 0⟩)
section
variable {P : Program} {w : World} {K : PySem.W.Frag} {mg : Str → Option Value} {base : Heap}
abbrev s_is_name : Stmt := topS 19
abbrev N_is_name : List Str := ["thing", "sign"]
theorem sc_is_name : FnScope N_is_name ["thing"] (defScope s_is_name) := ⟨rfl, rfl, rfl, by decide +kernel, rfl, by decide +kernel, by decide +kernel⟩
theorem ok_is_name (B : Blt mg) (F : Df K mg "is_name" s_is_name) (g_SMALL : GD K mg "SMALL" (.str "abcdefghijklmnopqrstuvwxyz")) (g_LONGEST : GD K mg "LONGEST" (.int 8)) : Has P w K mg base 1 "is_name" 1 m_is_name :=
  has_of (k := 0) (os := []) (o2 := []) (ol := []) F sc_is_name rfl (fun _ _ _ _ _ _ us hl => match us, hl with | [_], _ => rfl) (by decide) fun f cdv A outer s H E hr =>
    (pmss_one (qs_ret (q_and (q_isT isStr kStr B (by rfl) (by rfl) (by decide) (by decide +kernel) (qb_var 0)) (q_and (QMC.e (q_leLe (QM.toB q_int) (QM.toB (q_len (by rfl) (B _ (by decide)) (qb_var 0))) (QM.toB (q_gl g_LONGEST (by rfl))))) (q_one (q_all rfl (by rfl) (B _ (by decide)) (QMF.toB (qf_lc [("sign", 1)] rfl sc_is_name.nd (qi_any (q_var 0)) (blk_of (by kernel_rfl)) (by decide) (fun s H C cl fp => (qg_name 1 (by decide) sc_is_name.nd rfl (by first | exact .inl rfl | exact .inr rfl))) (fun s H C cl fp => qts_nil) (fun s H C cl fp => (QMC.e (q_in hr (qb_var 1) (QM.toB (q_gl g_SMALL (by rfl))))))))))))))

abbrev s_is_whole : Stmt := topS 20
abbrev N_is_whole : List Str := ["thing"]
theorem sc_is_whole : FnScope N_is_whole ["thing"] (defScope s_is_whole) := ⟨rfl, rfl, rfl, by decide +kernel, rfl, by decide +kernel, by decide +kernel⟩
theorem ok_is_whole (B : Blt mg) (F : Df K mg "is_whole" s_is_whole) : Has P w K mg base 1 "is_whole" 1 m_is_whole :=
  has_of (k := 0) (os := []) (o2 := []) (ol := []) F sc_is_whole rfl (fun _ _ _ _ _ _ us hl => match us, hl with | [_], _ => rfl) (by decide) fun f cdv A outer s H E hr =>
    (pmss_one (qs_ret (q_and (q_isT isInt kInt B (by rfl) (by rfl) (by decide) (by decide +kernel) (qb_var 0)) (q_one (q_not (q_isT isBl kBool B (by rfl) (by rfl) (by decide) (by decide +kernel) (qb_var 0)))))))

abbrev s_is_from : Stmt := topS 21
abbrev N_is_from : List Str := ["thing", "low", "high"]
theorem sc_is_from : FnScope N_is_from ["thing", "low", "high"] (defScope s_is_from) := ⟨rfl, rfl, rfl, by decide +kernel, rfl, by decide +kernel, by decide +kernel⟩
theorem ok_is_from (B : Blt mg) (F : Df K mg "is_from" s_is_from) (h_is_whole : Has P w K mg base 1 "is_whole" 1 m_is_whole) : Has P w K mg base 2 "is_from" 3 m_is_from :=
  has_of (k := 1) (os := []) (o2 := []) (ol := []) F sc_is_from rfl (fun _ _ _ _ _ _ us hl => match us, hl with | [_, _, _], _ => rfl) (by decide) fun f cdv A outer s H E hr =>
    (pmss_one (qs_ret (q_and (q_f h_is_whole (hr.mono (by decide)) (by rfl) (qa_cons (q_var 0) qa_nil)) (q_one (QMC.e (q_leLe (qb_var 1) (qb_var 0) (qb_var 2)))))))

abbrev s_are_names : Stmt := topS 22
abbrev N_are_names : List Str := ["thing", "most", "name"]
theorem sc_are_names : FnScope N_are_names ["thing", "most"] (defScope s_are_names) := ⟨rfl, rfl, rfl, by decide +kernel, rfl, by decide +kernel, by decide +kernel⟩
theorem ok_are_names (B : Blt mg) (F : Df K mg "are_names" s_are_names) (h_is_name : Has P w K mg base 1 "is_name" 1 m_is_name) : Has P w K mg base 2 "are_names" 2 m_are_names :=
  has_of (k := 1) (os := []) (o2 := []) (ol := []) F sc_are_names rfl (fun _ _ _ _ _ _ us hl => match us, hl with | [_, _], _ => rfl) (by decide) fun f cdv A outer s H E hr =>
    (pmss_cons (qs_if (QMW.t (qw_or (qt_not (qt_val (q_isi2 isLst isTup kList kTuple (by rfl) (B _ (by decide)) (by rfl) (B _ (by decide)) (by decide +kernel) (by rfl) (B _ (by decide)) (by decide +kernel) (qb_var 0)))) (qw_or1 (qt_not (QMC.t (q_leLe (QM.toB q_int) (QM.toB (q_len (by rfl) (B _ (by decide)) (qb_var 0))) (qb_var 1))))))) (pmss_one (qs_ret q_bl)) pmss_nil) (pmss_one (qs_ret (q_and (q_all rfl (by rfl) (B _ (by decide)) (QMF.toB (qf_lc [("name", 2)] rfl sc_are_names.nd (qi_any (q_var 0)) (blk_of (by kernel_rfl)) (by decide) (fun s H C cl fp => (qg_name 2 (by decide) sc_are_names.nd rfl (by first | exact .inl rfl | exact .inr rfl))) (fun s H C cl fp => qts_nil) (fun s H C cl fp => (q_f h_is_name (hr.mono (by decide)) (by rfl) (qa_cons (q_var 2) qa_nil)))))) (q_one (QMC.e (q_eq hr (QM.toB (q_len (by rfl) (B _ (by decide)) (QMF.toB (qf_dc [("name", 2)] rfl sc_are_names.nd (qi_any (q_var 0)) (blk_of (by kernel_rfl)) (by decide) (fun s H C cl fp => (qg_name 2 (by decide) sc_are_names.nd rfl (by first | exact .inl rfl | exact .inr rfl))) (fun s H C cl fp => qts_nil) (fun s H C cl fp => (q_var 2)) (fun s H C cl fp => q_bl))))) (QM.toB (q_len (by rfl) (B _ (by decide)) (qb_var 0))))))))))

abbrev s_is_beam : Stmt := topS 23
abbrev N_is_beam : List Str := ["thing"]
theorem sc_is_beam : FnScope N_is_beam ["thing"] (defScope s_is_beam) := ⟨rfl, rfl, rfl, by decide +kernel, rfl, by decide +kernel, by decide +kernel⟩
theorem ok_is_beam (B : Blt mg) (F : Df K mg "is_beam" s_is_beam) (g_MOST_STEP : GD K mg "MOST_STEP" (.int 5)) (h_is_name : Has P w K mg base 1 "is_name" 1 m_is_name) (h_is_from : Has P w K mg base 2 "is_from" 3 m_is_from) : Has P w K mg base 3 "is_beam" 1 m_is_beam :=
  has_of (k := 2) (os := []) (o2 := []) (ol := []) F sc_is_beam rfl (fun _ _ _ _ _ _ us hl => match us, hl with | [_], _ => rfl) (by decide) fun f cdv A outer s H E hr =>
    (pmss_cons (qs_if (QMW.t (qw_or (qt_not (qt_val (q_isT isTup kTuple B (by rfl) (by rfl) (by decide) (by decide +kernel) (qb_var 0)))) (qw_or (QMC.t (q_ne hr (QM.toB (q_len (by rfl) (B _ (by decide)) (qb_var 0))) (QM.toB q_int))) (qw_or1 (qt_not (qt_val (q_f h_is_name (hr.mono (by decide)) (by rfl) (qa_cons (q_at hr (qb_var 0) (QM.toB q_int)) qa_nil)))))))) (pmss_one (qs_ret q_bl)) pmss_nil) (pmss_one (qs_ret (q_and (q_f h_is_from (hr.mono (by decide)) (by rfl) (qa_cons (q_at hr (qb_var 0) (QM.toB q_int)) (qa_cons (q_neg (QM.toB (q_gl g_MOST_STEP (by rfl)))) (qa_cons (q_gl g_MOST_STEP (by rfl)) qa_nil)))) (q_one (QMC.e (q_ne hr (QM.toB (q_at hr (qb_var 0) (QM.toB q_int))) (QM.toB q_int))))))))

abbrev s_are_beams : Stmt := topS 24
abbrev N_are_beams : List Str := ["thing", "beam"]
theorem sc_are_beams : FnScope N_are_beams ["thing"] (defScope s_are_beams) := ⟨rfl, rfl, rfl, by decide +kernel, rfl, by decide +kernel, by decide +kernel⟩
theorem ok_are_beams (B : Blt mg) (F : Df K mg "are_beams" s_are_beams) (g_MOST_BEAMS : GD K mg "MOST_BEAMS" (.int 3)) (h_is_beam : Has P w K mg base 3 "is_beam" 1 m_is_beam) (h_are_names : Has P w K mg base 2 "are_names" 2 m_are_names) : Has P w K mg base 4 "are_beams" 1 m_are_beams :=
  has_of (k := 3) (os := []) (o2 := []) (ol := []) F sc_are_beams rfl (fun _ _ _ _ _ _ us hl => match us, hl with | [_], _ => rfl) (by decide) fun f cdv A outer s H E hr =>
    (pmss_cons (qs_if (QMW.t (qw_or (qt_not (qt_val (q_isi2 isLst isTup kList kTuple (by rfl) (B _ (by decide)) (by rfl) (B _ (by decide)) (by decide +kernel) (by rfl) (B _ (by decide)) (by decide +kernel) (qb_var 0)))) (qw_or1 (qt_not (qt_val (q_all rfl (by rfl) (B _ (by decide)) (QMF.toB (qf_lc [("beam", 1)] rfl sc_are_beams.nd (qi_any (q_var 0)) (blk_of (by kernel_rfl)) (by decide) (fun s H C cl fp => (qg_name 1 (by decide) sc_are_beams.nd rfl (by first | exact .inl rfl | exact .inr rfl))) (fun s H C cl fp => qts_nil) (fun s H C cl fp => (q_f h_is_beam (hr.mono (by decide)) (by rfl) (qa_cons (q_var 1) qa_nil))))))))))) (pmss_one (qs_ret q_bl)) pmss_nil) (pmss_one (qs_ret (q_f h_are_names (hr.mono (by decide)) (by rfl) (qa_cons (QMF.toE (qf_lc [("beam", 1)] rfl sc_are_beams.nd (qi_any (q_var 0)) (blk_of (by kernel_rfl)) (by decide) (fun s H C cl fp => (qg_name 1 (by decide) sc_are_beams.nd rfl (by first | exact .inl rfl | exact .inr rfl))) (fun s H C cl fp => qts_nil) (fun s H C cl fp => (q_at hr (qb_var 1) (QM.toB q_int))))) (qa_cons (q_gl g_MOST_BEAMS (by rfl)) qa_nil))))))

abbrev s_tuples_of : Stmt := topS 25
abbrev N_tuples_of : List Str := ["lean", "many", "found", "turn"]
theorem sc_tuples_of : FnScope N_tuples_of ["lean", "many"] (defScope s_tuples_of) := ⟨rfl, rfl, rfl, by decide +kernel, rfl, by decide +kernel, by decide +kernel⟩
theorem ok_tuples_of (B : Blt mg) (F : Df K mg "tuples_of" s_tuples_of) : Has P w K mg base 1 "tuples_of" 2 m_tuples_of :=
  has_of (k := 0) (os := []) (o2 := []) (ol := []) F sc_tuples_of rfl (fun _ _ _ _ _ _ us hl => match us, hl with | [_, _], _ => rfl) (by decide) fun f cdv A outer s H E hr =>
    (pmss_cons (qs_set 2 (by decide) sc_tuples_of.nd rfl (by first | exact .inl rfl | exact .inr rfl) q_int) (pmss_cons (q_for PassesOwn.never rfl (qi_range1 (by rfl) (B _ (by decide)) (qa_cons (q_var 1) qa_nil) (h1 := aLen1)) (qg_name 3 (by decide) sc_tuples_of.nd rfl (by first | exact .inl rfl | exact .inr rfl)) (pmss_one (qs_set 2 (by decide) sc_tuples_of.nd rfl (by first | exact .inl rfl | exact .inr rfl) (q_mul (qb_var 2) (QM.toB (q_add (QM.toB (q_mul (QM.toB q_int) (qb_var 0))) (QM.toB q_int))))))) (pmss_one (qs_ret (q_var 2)))))

abbrev s_Yard_init : Stmt := (inClass (topS 26) 0)
abbrev N_Yard_init : List Str := ["self", "things", "beams", "most", "lean"]
theorem sc_Yard_init : FnScope N_Yard_init ["self", "things", "beams", "most", "lean"] (defScope s_Yard_init) := ⟨rfl, rfl, rfl, by decide +kernel, rfl, by decide +kernel, by decide +kernel⟩
theorem ok_Yard_init (B : Blt mg) (F : DfI K mg "Yard" "Yard.__init__" s_Yard_init) (g_MOST_THINGS : GD K mg "MOST_THINGS" (.int 8)) (g_MOST_LEAN : GD K mg "MOST_LEAN" (.int 9)) (g_MOST_WEIGHT : GD K mg "MOST_WEIGHT" (.int 100)) (g_MOST_TUPLES : GD K mg "MOST_TUPLES" (.int 400)) (f_Yard_thing_names : HasF K mg "Yard" "thing_names") (f_Yard_beam_steps : HasF K mg "Yard" "beam_steps") (f_Yard_heaviest : HasF K mg "Yard" "heaviest") (f_Yard_farthest : HasF K mg "Yard" "farthest") (h_are_beams : Has P w K mg base 4 "are_beams" 1 m_are_beams) (h_are_names : Has P w K mg base 2 "are_names" 2 m_are_names) (h_is_from : Has P w K mg base 2 "is_from" 3 m_is_from) (h_tuples_of : Has P w K mg base 1 "tuples_of" 2 m_tuples_of) : HasI P w K mg base 5 "Yard" 2 ["most", "lean"] m_Yard_init :=
  hasI_of (k := 4) (ks := ["most", "lean"]) F sc_Yard_init rfl (fun _ _ _ _ _ _ us ws h1 h2 => match us, ws, h1, h2 with | [_, _, _], [_, _], _, _ => rfl) fun f cdv A outer s H E hr =>
    (qn_if (QMW.t (qw_or (qt_not (qt_val (q_f h_are_names (hr.mono (by decide)) (by rfl) (qa_cons (q_var 1) (qa_cons (q_gl g_MOST_THINGS (by rfl)) qa_nil))))) (qw_or1 (qt_not (qt_val (q_f h_are_beams (hr.mono (by decide)) (by rfl) (qa_cons (q_var 2) qa_nil))))))) (qn_if (QMW.t (qw_or (qt_not (qt_val (q_f h_is_from (hr.mono (by decide)) (by rfl) (qa_cons (q_var 3) (qa_cons q_int (qa_cons (q_gl g_MOST_WEIGHT (by rfl)) qa_nil)))))) (qw_or1 (qt_not (qt_val (q_f h_is_from (hr.mono (by decide)) (by rfl) (qa_cons (q_var 4) (qa_cons q_int (qa_cons (q_gl g_MOST_LEAN (by rfl)) qa_nil))))))))) (qn_if (QMC.t (q_gt (QM.toB (q_f h_tuples_of (hr.mono (by decide)) (by rfl) (qa_cons (q_var 4) (qa_cons (q_len (by rfl) (B _ (by decide)) (qb_var 2)) qa_nil)))) (QM.toB (q_gl g_MOST_TUPLES (by rfl))))) (qn_fld f_Yard_thing_names (q_tupleP (by rfl) (B _ (by decide)) (qb_var 1)) (qn_fld f_Yard_beam_steps (q_tupleP (by rfl) (B _ (by decide)) (qb_var 2)) (qn_fld f_Yard_heaviest (q_var 3) (qn_fld f_Yard_farthest (q_var 4) pmn_nil)))))))

abbrev s_Yard_things : Stmt := (inClass (topS 26) 3)
abbrev N_Yard_things : List Str := ["self"]
theorem sc_Yard_things : FnScope N_Yard_things ["self"] (defScope s_Yard_things) := ⟨rfl, rfl, rfl, by decide +kernel, rfl, by decide +kernel, by decide +kernel⟩
theorem ok_Yard_things (B : Blt mg) (F : DfM K mg "Yard" "things" "Yard.things" s_Yard_things) (f_Yard_thing_names : HasF K mg "Yard" "thing_names") : HasM P w K mg base 1 "Yard" "things" 1 m_Yard_things :=
  hasM_of (k := 0) (os := []) (o2 := []) (ol := []) F sc_Yard_things rfl (fun _ _ _ _ _ _ us hl => match us, hl with | [_], _ => rfl) (by decide) fun f cdv A outer s H E hr =>
    (pmss_one (qs_ret (QMF.toE (qf_list (by rfl) (B _ (by decide)) (QM.toB (q_field f_Yard_thing_names (q_var 0)))))))

abbrev s_Yard_beams : Stmt := (inClass (topS 26) 4)
abbrev N_Yard_beams : List Str := ["self"]
theorem sc_Yard_beams : FnScope N_Yard_beams ["self"] (defScope s_Yard_beams) := ⟨rfl, rfl, rfl, by decide +kernel, rfl, by decide +kernel, by decide +kernel⟩
theorem ok_Yard_beams (B : Blt mg) (F : DfM K mg "Yard" "beams" "Yard.beams" s_Yard_beams) (f_Yard_beam_steps : HasF K mg "Yard" "beam_steps") : HasM P w K mg base 1 "Yard" "beams" 1 m_Yard_beams :=
  hasM_of (k := 0) (os := []) (o2 := []) (ol := []) F sc_Yard_beams rfl (fun _ _ _ _ _ _ us hl => match us, hl with | [_], _ => rfl) (by decide) fun f cdv A outer s H E hr =>
    (pmss_one (qs_ret (QMF.toE (qf_list (by rfl) (B _ (by decide)) (QM.toB (q_field f_Yard_beam_steps (q_var 0)))))))

abbrev s_Yard_most : Stmt := (inClass (topS 26) 5)
abbrev N_Yard_most : List Str := ["self"]
theorem sc_Yard_most : FnScope N_Yard_most ["self"] (defScope s_Yard_most) := ⟨rfl, rfl, rfl, by decide +kernel, rfl, by decide +kernel, by decide +kernel⟩
theorem ok_Yard_most (B : Blt mg) (F : DfM K mg "Yard" "most" "Yard.most" s_Yard_most) (f_Yard_heaviest : HasF K mg "Yard" "heaviest") : HasM P w K mg base 1 "Yard" "most" 1 m_Yard_most :=
  hasM_of (k := 0) (os := []) (o2 := []) (ol := []) F sc_Yard_most rfl (fun _ _ _ _ _ _ us hl => match us, hl with | [_], _ => rfl) (by decide) fun f cdv A outer s H E hr =>
    (pmss_one (qs_ret (q_field f_Yard_heaviest (q_var 0))))

abbrev s_Yard_lean : Stmt := (inClass (topS 26) 6)
abbrev N_Yard_lean : List Str := ["self"]
theorem sc_Yard_lean : FnScope N_Yard_lean ["self"] (defScope s_Yard_lean) := ⟨rfl, rfl, rfl, by decide +kernel, rfl, by decide +kernel, by decide +kernel⟩
theorem ok_Yard_lean (B : Blt mg) (F : DfM K mg "Yard" "lean" "Yard.lean" s_Yard_lean) (f_Yard_farthest : HasF K mg "Yard" "farthest") : HasM P w K mg base 1 "Yard" "lean" 1 m_Yard_lean :=
  hasM_of (k := 0) (os := []) (o2 := []) (ol := []) F sc_Yard_lean rfl (fun _ _ _ _ _ _ us hl => match us, hl with | [_], _ => rfl) (by decide) fun f cdv A outer s H E hr =>
    (pmss_one (qs_ret (q_field f_Yard_farthest (q_var 0))))

abbrev s_need_beam : Stmt := topS 29
abbrev N_need_beam : List Str := ["yard", "beam", "name", "step"]
theorem sc_need_beam : FnScope N_need_beam ["yard", "beam"] (defScope s_need_beam) := ⟨rfl, rfl, rfl, by decide +kernel, rfl, by decide +kernel, by decide +kernel⟩
theorem ok_need_beam (B : Blt mg) (F : Df K mg "need_beam" s_need_beam) (h_Yard_beams : HasM P w K mg base 1 "Yard" "beams" 1 m_Yard_beams) : Has P w K mg base 2 "need_beam" 2 m_need_beam :=
  has_of (k := 1) (os := []) (o2 := []) (ol := []) F sc_need_beam rfl (fun _ _ _ _ _ _ us hl => match us, hl with | [_, _], _ => rfl) (by decide) fun f cdv A outer s H E hr =>
    (pmss_one (qs_if (QMW.t (qw_or (qt_not (qt_val (q_isT isStr kStr B (by rfl) (by rfl) (by decide) (by decide +kernel) (qb_var 1)))) (qw_or1 (QMC.t (q_nin hr (qb_var 1) (QMF.toB (qf_lc [("name", 2), ("step", 3)] rfl sc_need_beam.nd (qi_any (q_m0 h_Yard_beams (hr.mono (by decide)) (q_var 0))) (blk_of (by kernel_rfl)) (by decide) (fun s H C cl fp => (qg_tup rfl (qgs_cons (qg_name 2 (by decide) sc_need_beam.nd rfl (by first | exact .inl rfl | exact .inr rfl)) (qgs_cons (qg_name 3 (by decide) sc_need_beam.nd rfl (by first | exact .inl rfl | exact .inr rfl)) qgs_nil)) (gs_len_cons (gs_len_cons gs_len_nil)))) (fun s H C cl fp => qts_nil) (fun s H C cl fp => (q_var 2))))))))) (pmss_one pms_never) pmss_nil))

abbrev s_Yard_step : Stmt := (inClass (topS 26) 7)
abbrev N_Yard_step : List Str := ["self", "beam"]
theorem sc_Yard_step : FnScope N_Yard_step ["self", "beam"] (defScope s_Yard_step) := ⟨rfl, rfl, rfl, by decide +kernel, rfl, by decide +kernel, by decide +kernel⟩
theorem ok_Yard_step (B : Blt mg) (F : DfM K mg "Yard" "step" "Yard.step" s_Yard_step) (f_Yard_beam_steps : HasF K mg "Yard" "beam_steps") (h_need_beam : Has P w K mg base 2 "need_beam" 2 m_need_beam) : HasM P w K mg base 3 "Yard" "step" 2 m_Yard_step :=
  hasM_of (k := 2) (os := []) (o2 := []) (ol := []) F sc_Yard_step rfl (fun _ _ _ _ _ _ us hl => match us, hl with | [_, _], _ => rfl) (by decide) fun f cdv A outer s H E hr =>
    (pmss_cons (qs_drop (q_f h_need_beam (hr.mono (by decide)) (by rfl) (qa_cons (q_var 0) (qa_cons (q_var 1) qa_nil)))) (pmss_one (qs_ret (q_at hr (QMF.toB (qf_dictT rfl (by rfl) (B _ (by decide)) (QM.toB (q_field f_Yard_beam_steps (q_var 0))))) (qb_var 1)))))

abbrev s_need_pan : Stmt := topS 28
abbrev N_need_pan : List Str := ["yard", "pan"]
theorem sc_need_pan : FnScope N_need_pan ["yard", "pan"] (defScope s_need_pan) := ⟨rfl, rfl, rfl, by decide +kernel, rfl, by decide +kernel, by decide +kernel⟩
theorem ok_need_pan (B : Blt mg) (F : Df K mg "need_pan" s_need_pan) (h_Yard_things : HasM P w K mg base 1 "Yard" "things" 1 m_Yard_things) : Has P w K mg base 2 "need_pan" 2 m_need_pan :=
  has_of (k := 1) (os := []) (o2 := []) (ol := []) F sc_need_pan rfl (fun _ _ _ _ _ _ us hl => match us, hl with | [_, _], _ => rfl) (by decide) fun f cdv A outer s H E hr =>
    (pmss_one (qs_if (QMW.t (qw_and (QMC.t (q_notN (qb_var 1) (QM.toB q_non))) (qw_and1 (QMW.t (qw_or (qt_not (qt_val (q_isT isStr kStr B (by rfl) (by rfl) (by decide) (by decide +kernel) (qb_var 1)))) (qw_or1 (QMC.t (q_nin hr (qb_var 1) (QM.toB (q_m0 h_Yard_things (hr.mono (by decide)) (q_var 0))))))))))) (pmss_one pms_never) pmss_nil))

abbrev s_are_parts : Stmt := topS 35
abbrev N_are_parts : List Str := ["yard", "beam", "left", "right"]
theorem sc_are_parts : FnScope N_are_parts ["yard", "beam", "left", "right"] (defScope s_are_parts) := ⟨rfl, rfl, rfl, by decide +kernel, rfl, by decide +kernel, by decide +kernel⟩
theorem ok_are_parts (B : Blt mg) (F : Df K mg "are_parts" s_are_parts) (h_need_beam : Has P w K mg base 2 "need_beam" 2 m_need_beam) (h_need_pan : Has P w K mg base 2 "need_pan" 2 m_need_pan) : Has P w K mg base 3 "are_parts" 4 m_are_parts :=
  has_of (k := 2) (os := []) (o2 := []) (ol := []) F sc_are_parts rfl (fun _ _ _ _ _ _ us hl => match us, hl with | [_, _, _, _], _ => rfl) (by decide) fun f cdv A outer s H E hr =>
    (pmss_cons (pms_try (fun _ _ h => h) (pmss_cons (qs_drop (q_f h_need_beam (hr.mono (by decide)) (by rfl) (qa_cons (q_var 0) (qa_cons (q_var 1) qa_nil)))) (pmss_cons (qs_drop (q_f h_need_pan (hr.mono (by decide)) (by rfl) (qa_cons (q_var 0) (qa_cons (q_var 2) qa_nil)))) (pmss_one (qs_drop (q_f h_need_pan (hr.mono (by decide)) (by rfl) (qa_cons (q_var 0) (qa_cons (q_var 3) qa_nil)))))))) (pmss_one (qs_ret (q_or (QMC.e (q_isN (qb_var 2) (QM.toB q_non))) (q_one (QMC.e (q_ne hr (qb_var 2) (qb_var 3))))))))

abbrev s_is_row : Stmt := topS 36
abbrev N_is_row : List Str := ["yard", "thing"]
theorem sc_is_row : FnScope N_is_row ["yard", "thing"] (defScope s_is_row) := ⟨rfl, rfl, rfl, by decide +kernel, rfl, by decide +kernel, by decide +kernel⟩
theorem ok_is_row (B : Blt mg) (F : Df K mg "is_row" s_is_row) (g_WORDS : GD K mg "WORDS" (.tup [(.str "left"), (.str "even"), (.str "right")])) (h_are_parts : Has P w K mg base 3 "are_parts" 4 m_are_parts) : Has P w K mg base 4 "is_row" 2 m_is_row :=
  has_of (k := 3) (os := []) (o2 := []) (ol := []) F sc_is_row rfl (fun _ _ _ _ _ _ us hl => match us, hl with | [_, _], _ => rfl) (by decide) fun f cdv A outer s H E hr =>
    (pmss_cons (qs_if (QMW.t (qw_or (qt_not (qt_val (q_isT isTup kTuple B (by rfl) (by rfl) (by decide) (by decide +kernel) (qb_var 1)))) (qw_or (QMC.t (q_ne hr (QM.toB (q_len (by rfl) (B _ (by decide)) (qb_var 1))) (QM.toB q_int))) (qw_or1 (qt_not (qt_val (q_f h_are_parts (hr.mono (by decide)) (by rfl) (qa_cons (q_var 0) (qa_cons (q_at hr (qb_var 1) (QM.toB q_int)) (qa_cons (q_at hr (qb_var 1) (QM.toB q_int)) (qa_cons (q_at hr (qb_var 1) (QM.toB q_int)) qa_nil))))))))))) (pmss_one (qs_ret q_bl)) pmss_nil) (pmss_one (qs_ret (q_and (q_isT isStr kStr B (by rfl) (by rfl) (by decide) (by decide +kernel) (QM.toB (q_at hr (qb_var 1) (QM.toB q_int)))) (q_one (QMC.e (q_in hr (QM.toB (q_at hr (qb_var 1) (QM.toB q_int))) (QM.toB (q_gl g_WORDS (by rfl))))))))))

abbrev s_need_log : Stmt := topS 37
abbrev N_need_log : List Str := ["yard", "log", "at", "row"]
theorem sc_need_log : FnScope N_need_log ["yard", "log"] (defScope s_need_log) := ⟨rfl, rfl, rfl, by decide +kernel, rfl, by decide +kernel, by decide +kernel⟩
theorem ok_need_log (B : Blt mg) (F : Df K mg "need_log" s_need_log) (h_is_row : Has P w K mg base 4 "is_row" 2 m_is_row) : Has P w K mg base 5 "need_log" 2 m_need_log :=
  has_of (k := 4) (os := []) (o2 := []) (ol := []) F sc_need_log rfl (fun _ _ _ _ _ _ us hl => match us, hl with | [_, _], _ => rfl) (by decide) fun f cdv A outer s H E hr =>
    (pmss_cons (qs_if (qt_not (qt_val (q_isi2 isLst isTup kList kTuple (by rfl) (B _ (by decide)) (by rfl) (B _ (by decide)) (by decide +kernel) (by rfl) (B _ (by decide)) (by decide +kernel) (qb_var 1)))) (pmss_one pms_never) pmss_nil) (pmss_one (q_for PassesOwn.never rfl (qi_enum (by rfl) (B _ (by decide)) (qa_cons (q_var 1) qa_nil)) (qg_tup rfl (qgs_cons (qg_name 2 (by decide) sc_need_log.nd rfl (by first | exact .inl rfl | exact .inr rfl)) (qgs_cons (qg_name 3 (by decide) sc_need_log.nd rfl (by first | exact .inl rfl | exact .inr rfl)) qgs_nil)) (gs_len_cons (gs_len_cons gs_len_nil))) (pmss_one (qs_if (qt_not (qt_val (q_f h_is_row (hr.mono (by decide)) (by rfl) (qa_cons (q_var 0) (qa_cons (q_var 3) qa_nil))))) (pmss_one pms_never) pmss_nil)))))

abbrev s_word_of : Stmt := topS 40
abbrev N_word_of : List Str := ["total"]
theorem sc_word_of : FnScope N_word_of ["total"] (defScope s_word_of) := ⟨rfl, rfl, rfl, by decide +kernel, rfl, by decide +kernel, by decide +kernel⟩
theorem ok_word_of (B : Blt mg) (F : Df K mg "word_of" s_word_of) (g_EVEN : GD K mg "EVEN" (.str "even")) (g_LEFT : GD K mg "LEFT" (.str "left")) (g_RIGHT : GD K mg "RIGHT" (.str "right")) : Has P w K mg base 1 "word_of" 1 m_word_of :=
  has_of (k := 0) (os := []) (o2 := []) (ol := []) F sc_word_of rfl (fun _ _ _ _ _ _ us hl => match us, hl with | [_], _ => rfl) (by decide) fun f cdv A outer s H E hr =>
    (pmss_cons (qs_if (QMC.t (q_eq hr (qb_var 0) (QM.toB q_int))) (pmss_one (qs_ret (q_gl g_EVEN (by rfl)))) pmss_nil) (pmss_one (qs_ret (q_if (QMC.t (q_gt (qb_var 0) (QM.toB q_int))) (q_gl g_LEFT (by rfl)) (q_gl g_RIGHT (by rfl))))))

abbrev s_tired : Stmt := topS 41
abbrev N_tired : List Str := ["word", "step"]
theorem sc_tired : FnScope N_tired ["word", "step"] (defScope s_tired) := ⟨rfl, rfl, rfl, by decide +kernel, rfl, by decide +kernel, by decide +kernel⟩
theorem ok_tired (B : Blt mg) (F : Df K mg "tired" s_tired) (g_RIGHT : GD K mg "RIGHT" (.str "right")) (g_EVEN : GD K mg "EVEN" (.str "even")) (g_LEFT : GD K mg "LEFT" (.str "left")) : Has P w K mg base 1 "tired" 2 m_tired :=
  has_of (k := 0) (os := []) (o2 := []) (ol := []) F sc_tired rfl (fun _ _ _ _ _ _ us hl => match us, hl with | [_, _], _ => rfl) (by decide) fun f cdv A outer s H E hr =>
    (pmss_one (qs_ret (q_at hr (QMF.toB (qf_disp (qp_cons (q_gl g_LEFT (by rfl)) (q_neg (qb_var 1)) (qp_cons (q_gl g_EVEN (by rfl)) q_int (qp_cons (q_gl g_RIGHT (by rfl)) (q_var 1) qp_nil))))) (qb_var 0))))

abbrev s_shifts : Stmt := topS 42
abbrev N_shifts : List Str := ["yard", "log", "steps", "row", "beam"]
theorem sc_shifts : FnScope N_shifts ["yard", "log"] (defScope s_shifts) := ⟨rfl, rfl, rfl, by decide +kernel, rfl, by decide +kernel, by decide +kernel⟩
theorem ok_shifts (B : Blt mg) (F : Df K mg "shifts" s_shifts) (h_Yard_beams : HasM P w K mg base 1 "Yard" "beams" 1 m_Yard_beams) (h_need_log : Has P w K mg base 5 "need_log" 2 m_need_log) (h_tired : Has P w K mg base 1 "tired" 2 m_tired) : Has P w K mg base 6 "shifts" 2 m_shifts :=
  has_of (k := 5) (os := []) (o2 := []) (ol := []) F sc_shifts rfl (fun _ _ _ _ _ _ us hl => match us, hl with | [_, _], _ => rfl) (by decide) fun f cdv A outer s H E hr =>
    (pmss_cons (qs_drop (q_f h_need_log (hr.mono (by decide)) (by rfl) (qa_cons (q_var 0) (qa_cons (q_var 1) qa_nil)))) (pmss_cons (qs_set 2 (by decide) sc_shifts.nd rfl (by first | exact .inl rfl | exact .inr rfl) (QMF.toE (qf_dict rfl (by rfl) (B _ (by decide)) (QM.toB (q_m0 h_Yard_beams (hr.mono (by decide)) (q_var 0)))))) (pmss_one (qs_ret (QMF.toE (qf_dc [("beam", 4)] rfl sc_shifts.nd (qi_any (q_var 2)) (blk_of (by kernel_rfl)) (by decide) (fun s H C cl fp => (qg_name 4 (by decide) sc_shifts.nd rfl (by first | exact .inl rfl | exact .inr rfl))) (fun s H C cl fp => qts_nil) (fun s H C cl fp => (q_var 4)) (fun s H C cl fp => (q_sum rfl (by rfl) (B _ (by decide)) (QMF.toB (qf_lc [("row", 3)] rfl sc_shifts.nd (qi_any (q_var 1)) (blk_of (by kernel_rfl)) (by decide) (fun s H C cl fp => (qg_name 3 (by decide) sc_shifts.nd rfl (by first | exact .inl rfl | exact .inr rfl))) (fun s H C cl fp => (qts_one (QMC.t (q_eq hr (QM.toB (q_at hr (qb_var 3) (QM.toB q_int))) (qb_var 4))))) (fun s H C cl fp => (q_f h_tired (hr.mono (by decide)) (by rfl) (qa_cons (q_at hr (qb_var 3) (QM.toB q_int)) (qa_cons (q_at hr (qb_var 2) (qb_var 4)) qa_nil))))))))))))))

abbrev s_is_dict_of : Stmt := topS 43
abbrev N_is_dict_of : List Str := ["thing", "names", "low", "high", "name", "number"]
theorem sc_is_dict_of : FnScope N_is_dict_of ["thing", "names", "low", "high"] (defScope s_is_dict_of) := ⟨rfl, rfl, rfl, by decide +kernel, rfl, by decide +kernel, by decide +kernel⟩
theorem ok_is_dict_of (B : Blt mg) (F : Df K mg "is_dict_of" s_is_dict_of) (h_is_from : Has P w K mg base 2 "is_from" 3 m_is_from) : Has P w K mg base 3 "is_dict_of" 4 m_is_dict_of :=
  has_of (k := 2) (os := []) (o2 := []) (ol := []) F sc_is_dict_of rfl (fun _ _ _ _ _ _ us hl => match us, hl with | [_, _, _, _], _ => rfl) (by decide) fun f cdv A outer s H E hr =>
    (pmss_cons (qs_if (QMW.t (qw_or (qt_not (qt_val (q_isT isDic kDict B (by rfl) (by rfl) (by decide) (by decide +kernel) (qb_var 0)))) (qw_or (QMC.t (q_ne hr (QM.toB (q_len (by rfl) (B _ (by decide)) (qb_var 0))) (QM.toB (q_len (by rfl) (B _ (by decide)) (qb_var 1))))) (qw_or1 (qt_not (qt_val (q_all rfl (by rfl) (B _ (by decide)) (QMF.toB (qf_lc [("name", 4)] rfl sc_is_dict_of.nd (qi_any (q_var 1)) (blk_of (by kernel_rfl)) (by decide) (fun s H C cl fp => (qg_name 4 (by decide) sc_is_dict_of.nd rfl (by first | exact .inl rfl | exact .inr rfl))) (fun s H C cl fp => qts_nil) (fun s H C cl fp => (QMC.e (q_in hr (qb_var 4) (qb_var 0))))))))))))) (pmss_one (qs_ret q_bl)) pmss_nil) (pmss_one (qs_ret (q_all rfl (by rfl) (B _ (by decide)) (QMF.toB (qf_lc [("number", 5)] rfl sc_is_dict_of.nd (qi_vals (q_var 0)) (blk_of (by kernel_rfl)) (by decide) (fun s H C cl fp => (qg_name 5 (by decide) sc_is_dict_of.nd rfl (by first | exact .inl rfl | exact .inr rfl))) (fun s H C cl fp => qts_nil) (fun s H C cl fp => (q_f h_is_from (hr.mono (by decide)) (by rfl) (qa_cons (q_var 5) (qa_cons (q_var 2) (qa_cons (q_var 3) qa_nil)))))))))))

abbrev s_is_pair : Stmt := topS 44
abbrev N_is_pair : List Str := ["yard", "thing", "beam", "step"]
theorem sc_is_pair : FnScope N_is_pair ["yard", "thing"] (defScope s_is_pair) := ⟨rfl, rfl, rfl, by decide +kernel, rfl, by decide +kernel, by decide +kernel⟩
theorem ok_is_pair (B : Blt mg) (F : Df K mg "is_pair" s_is_pair) (h_Yard_most : HasM P w K mg base 1 "Yard" "most" 1 m_Yard_most) (h_Yard_things : HasM P w K mg base 1 "Yard" "things" 1 m_Yard_things) (h_Yard_lean : HasM P w K mg base 1 "Yard" "lean" 1 m_Yard_lean) (h_Yard_beams : HasM P w K mg base 1 "Yard" "beams" 1 m_Yard_beams) (h_is_dict_of : Has P w K mg base 3 "is_dict_of" 4 m_is_dict_of) : Has P w K mg base 4 "is_pair" 2 m_is_pair :=
  has_of (k := 3) (os := []) (o2 := []) (ol := []) F sc_is_pair rfl (fun _ _ _ _ _ _ us hl => match us, hl with | [_, _], _ => rfl) (by decide) fun f cdv A outer s H E hr =>
    (pmss_cons (qs_if (QMW.t (qw_or (qt_not (qt_val (q_isT isTup kTuple B (by rfl) (by rfl) (by decide) (by decide +kernel) (qb_var 1)))) (qw_or (QMC.t (q_ne hr (QM.toB (q_len (by rfl) (B _ (by decide)) (qb_var 1))) (QM.toB q_int))) (qw_or1 (qt_not (qt_val (q_f h_is_dict_of (hr.mono (by decide)) (by rfl) (qa_cons (q_at hr (qb_var 1) (QM.toB q_int)) (qa_cons (q_m0 h_Yard_things (hr.mono (by decide)) (q_var 0)) (qa_cons q_int (qa_cons (q_m0 h_Yard_most (hr.mono (by decide)) (q_var 0)) qa_nil))))))))))) (pmss_one (qs_ret q_bl)) pmss_nil) (pmss_one (qs_ret (q_f h_is_dict_of (hr.mono (by decide)) (by rfl) (qa_cons (q_at hr (qb_var 1) (QM.toB q_int)) (qa_cons (QMF.toE (qf_lc [("beam", 2), ("step", 3)] rfl sc_is_pair.nd (qi_any (q_m0 h_Yard_beams (hr.mono (by decide)) (q_var 0))) (blk_of (by kernel_rfl)) (by decide) (fun s H C cl fp => (qg_tup rfl (qgs_cons (qg_name 2 (by decide) sc_is_pair.nd rfl (by first | exact .inl rfl | exact .inr rfl)) (qgs_cons (qg_name 3 (by decide) sc_is_pair.nd rfl (by first | exact .inl rfl | exact .inr rfl)) qgs_nil)) (gs_len_cons (gs_len_cons gs_len_nil)))) (fun s H C cl fp => qts_nil) (fun s H C cl fp => (q_var 2)))) (qa_cons (q_sub (QM.toB q_int) (QM.toB (q_m0 h_Yard_lean (hr.mono (by decide)) (q_var 0)))) (qa_cons (q_m0 h_Yard_lean (hr.mono (by decide)) (q_var 0)) qa_nil))))))))

abbrev s_need_world : Stmt := topS 45
abbrev N_need_world : List Str := ["yard", "thing"]
theorem sc_need_world : FnScope N_need_world ["yard", "thing"] (defScope s_need_world) := ⟨rfl, rfl, rfl, by decide +kernel, rfl, by decide +kernel, by decide +kernel⟩
theorem ok_need_world (B : Blt mg) (F : Df K mg "need_world" s_need_world) (h_is_pair : Has P w K mg base 4 "is_pair" 2 m_is_pair) : Has P w K mg base 5 "need_world" 2 m_need_world :=
  has_of (k := 4) (os := []) (o2 := []) (ol := []) F sc_need_world rfl (fun _ _ _ _ _ _ us hl => match us, hl with | [_, _], _ => rfl) (by decide) fun f cdv A outer s H E hr =>
    (pmss_one (qs_if (qt_not (qt_val (q_f h_is_pair (hr.mono (by decide)) (by rfl) (qa_cons (q_var 0) (qa_cons (q_var 1) qa_nil))))) (pmss_one pms_never) pmss_nil))

abbrev s_weight : Stmt := topS 46
abbrev N_weight : List Str := ["world", "pan"]
theorem sc_weight : FnScope N_weight ["world", "pan"] (defScope s_weight) := ⟨rfl, rfl, rfl, by decide +kernel, rfl, by decide +kernel, by decide +kernel⟩
theorem ok_weight (B : Blt mg) (F : Df K mg "weight" s_weight) : Has P w K mg base 1 "weight" 2 m_weight :=
  has_of (k := 0) (os := []) (o2 := []) (ol := []) F sc_weight rfl (fun _ _ _ _ _ _ us hl => match us, hl with | [_, _], _ => rfl) (by decide) fun f cdv A outer s H E hr =>
    (pmss_one (qs_ret (q_if (QMC.t (q_isN (qb_var 1) (QM.toB q_non))) q_int (q_at hr (QM.toB (q_at hr (qb_var 0) (QM.toB q_int))) (qb_var 1)))))

abbrev s_told_words : Stmt := topS 47
abbrev N_told_words : List Str := ["yard", "world", "weighings", "steps", "leans", "found", "beam", "left", "right", "word"]
theorem sc_told_words : FnScope N_told_words ["yard", "world", "weighings"] (defScope s_told_words) := ⟨rfl, rfl, rfl, by decide +kernel, rfl, by decide +kernel, by decide +kernel⟩
theorem ok_told_words (B : Blt mg) (F : Df K mg "told_words" s_told_words) (h_Yard_beams : HasM P w K mg base 1 "Yard" "beams" 1 m_Yard_beams) (h_weight : Has P w K mg base 1 "weight" 2 m_weight) (h_word_of : Has P w K mg base 1 "word_of" 1 m_word_of) (h_tired : Has P w K mg base 1 "tired" 2 m_tired) : HasN P w K mg base 2 "told_words" 3 m_told_words :=
  hasN_of (k := 1) (os := [4, 5]) (o2 := [4, 5]) (ol := []) F sc_told_words rfl (fun _ _ _ _ _ _ us hl => match us, hl with | [_, _, _], _ => rfl) (by decide) (noend_seq (noend_seq noend_ret)) fun f cdv A outer s H E hr =>
    (pmss_cons (qs_par3 3 4 5 rfl sc_told_words.nd rfl rfl rfl (by decide) (by decide) (by decide) rfl rfl rfl (QM.x (QMF.toE (qf_dict rfl (by rfl) (B _ (by decide)) (QM.toB (q_m0 h_Yard_beams (hr.mono (by decide)) (q_var 0)))))) (QMF.x (qf_dict rfl (by rfl) (B _ (by decide)) (QM.toB (q_at hr (qb_var 1) (QM.toB q_int))))) (QMF.x (qf_lst qa_nil)) (by decide) (by decide) (by decide) (by rfl)) (pmss_cons (q_for PassesOwn.never rfl (qi_any (q_var 2)) (qg_tup rfl (qgs_cons (qg_name 6 (by decide) sc_told_words.nd rfl (by first | exact .inl rfl | exact .inr rfl)) (qgs_cons (qg_name 7 (by decide) sc_told_words.nd rfl (by first | exact .inl rfl | exact .inr rfl)) (qgs_cons (qg_name 8 (by decide) sc_told_words.nd rfl (by first | exact .inl rfl | exact .inr rfl)) qgs_nil))) (gs_len_cons (gs_len_cons (gs_len_cons gs_len_nil)))) (pmss_cons (qs_set 9 (by decide) sc_told_words.nd rfl (by first | exact .inl rfl | exact .inr rfl) (q_f h_word_of (hr.mono (by decide)) (by rfl) (qa_cons (q_add (QM.toB (q_sub (QM.toB (q_f h_weight (hr.mono (by decide)) (by rfl) (qa_cons (q_var 1) (qa_cons (q_var 7) qa_nil)))) (QM.toB (q_f h_weight (hr.mono (by decide)) (by rfl) (qa_cons (q_var 1) (qa_cons (q_var 8) qa_nil)))))) (QM.toB (q_at hr (qb_var 4) (qb_var 6)))) qa_nil))) (pmss_cons (qs_augD 4 hr (q_f h_tired (hr.mono (by decide)) (by rfl) (qa_cons (q_var 9) (qa_cons (q_at hr (qb_var 3) (qb_var 6)) qa_nil))) (qb_var 6)) (pmss_one (qs_app 5 (q_tup (qa_cons (q_var 6) (qa_cons (q_var 7) (qa_cons (q_var 8) (qa_cons (q_var 9) qa_nil)))))))))) (pmss_one (pms_retO 5))))

abbrev s_is_world : Stmt := topS 48
abbrev N_is_world : List Str := ["yard", "log", "thing", "row"]
theorem sc_is_world : FnScope N_is_world ["yard", "log", "thing"] (defScope s_is_world) := ⟨rfl, rfl, rfl, by decide +kernel, rfl, by decide +kernel, by decide +kernel⟩
theorem ok_is_world (B : Blt mg) (F : Df K mg "is_world" s_is_world) (h_need_log : Has P w K mg base 5 "need_log" 2 m_need_log) (h_told_words : HasN P w K mg base 2 "told_words" 3 m_told_words) (h_is_pair : Has P w K mg base 4 "is_pair" 2 m_is_pair) : Has P w K mg base 6 "is_world" 3 m_is_world :=
  has_of (k := 5) (os := []) (o2 := []) (ol := []) F sc_is_world rfl (fun _ _ _ _ _ _ us hl => match us, hl with | [_, _, _], _ => rfl) (by decide) fun f cdv A outer s H E hr =>
    (pmss_cons (qs_drop (q_f h_need_log (hr.mono (by decide)) (by rfl) (qa_cons (q_var 0) (qa_cons (q_var 1) qa_nil)))) (pmss_one (qs_ret (q_and (q_f h_is_pair (hr.mono (by decide)) (by rfl) (qa_cons (q_var 0) (qa_cons (q_var 2) qa_nil))) (q_one (QMC.e (q_eq hr (QMF.toB (qf_f h_told_words (hr.mono (by decide)) (by rfl) (qa_cons (q_var 0) (qa_cons (q_var 2) (qa_cons (QMF.toE (qf_lc [("row", 3)] rfl sc_is_world.nd (qi_any (q_var 1)) (blk_of (by kernel_rfl)) (by decide) (fun s H C cl fp => (qg_name 3 (by decide) sc_is_world.nd rfl (by first | exact .inl rfl | exact .inr rfl))) (fun s H C cl fp => qts_nil) (fun s H C cl fp => (q_sl (qb_var 3) qo_none (qo_some (QM.toB q_int)))))) qa_nil))))) (QMF.toB (qf_list (by rfl) (B _ (by decide)) (qb_var 1))))))))))

abbrev s_pans : Stmt := topS 27
abbrev N_pans : List Str := ["yard"]
theorem sc_pans : FnScope N_pans ["yard"] (defScope s_pans) := ⟨rfl, rfl, rfl, by decide +kernel, rfl, by decide +kernel, by decide +kernel⟩
theorem ok_pans (B : Blt mg) (F : Df K mg "pans" s_pans) (h_Yard_things : HasM P w K mg base 1 "Yard" "things" 1 m_Yard_things) : Has P w K mg base 2 "pans" 1 m_pans :=
  has_of (k := 1) (os := []) (o2 := []) (ol := []) F sc_pans rfl (fun _ _ _ _ _ _ us hl => match us, hl with | [_], _ => rfl) (by decide) fun f cdv A outer s H E hr =>
    (pmss_one (qs_ret (q_add (QMF.toB (qf_lst (qa_cons q_non qa_nil))) (QM.toB (q_m0 h_Yard_things (hr.mono (by decide)) (q_var 0))))))

abbrev s_weighings_at : Stmt := topS 38
abbrev N_weighings_at : List Str := ["yard", "beam", "found", "left", "right"]
theorem sc_weighings_at : FnScope N_weighings_at ["yard", "beam"] (defScope s_weighings_at) := ⟨rfl, rfl, rfl, by decide +kernel, rfl, by decide +kernel, by decide +kernel⟩
theorem ok_weighings_at (B : Blt mg) (F : Df K mg "weighings_at" s_weighings_at) (h_pans : Has P w K mg base 2 "pans" 1 m_pans) : HasN P w K mg base 3 "weighings_at" 2 m_weighings_at :=
  hasN_of (k := 2) (os := [2]) (o2 := [2]) (ol := []) F sc_weighings_at rfl (fun _ _ _ _ _ _ us hl => match us, hl with | [_, _], _ => rfl) (by decide) (noend_seq (noend_seq noend_ret)) fun f cdv A outer s H E hr =>
    (pmss_cons (qs_setN 2 (by decide) sc_weighings_at.nd rfl (by first | exact .inl rfl | exact .inr rfl) (qf_lst qa_nil)) (pmss_cons (q_for PassesOwn.never rfl (qi_any (q_f h_pans (hr.mono (by decide)) (by rfl) (qa_cons (q_var 0) qa_nil))) (qg_name 3 (by decide) sc_weighings_at.nd rfl (by first | exact .inl rfl | exact .inr rfl)) (pmss_one (qs_ext 2 (QMF.toE (qf_lc [("right", 4)] rfl sc_weighings_at.nd (qi_any (q_f h_pans (hr.mono (by decide)) (by rfl) (qa_cons (q_var 0) qa_nil))) (blk_of (by kernel_rfl)) (by decide) (fun s H C cl fp => (qg_name 4 (by decide) sc_weighings_at.nd rfl (by first | exact .inl rfl | exact .inr rfl))) (fun s H C cl fp => (qts_one (QMW.t (qw_or (QMC.t (q_isN (qb_var 3) (QM.toB q_non))) (qw_or1 (QMC.t (q_ne hr (qb_var 3) (qb_var 4)))))))) (fun s H C cl fp => (q_tup (qa_cons (q_var 1) (qa_cons (q_var 3) (qa_cons (q_var 4) qa_nil)))))))))) (pmss_one (pms_retO 2))))

abbrev s_need_steps : Stmt := topS 50
abbrev N_need_steps : List Str := ["yard", "beam", "step"]
theorem sc_need_steps : FnScope N_need_steps ["yard"] (defScope s_need_steps) := ⟨rfl, rfl, rfl, by decide +kernel, rfl, by decide +kernel, by decide +kernel⟩
theorem ok_need_steps (B : Blt mg) (F : Df K mg "need_steps" s_need_steps) (h_Yard_beams : HasM P w K mg base 1 "Yard" "beams" 1 m_Yard_beams) : Has P w K mg base 2 "need_steps" 1 m_need_steps :=
  has_of (k := 1) (os := []) (o2 := []) (ol := []) F sc_need_steps rfl (fun _ _ _ _ _ _ us hl => match us, hl with | [_], _ => rfl) (by decide) fun f cdv A outer s H E hr =>
    (pmss_one (q_for PassesOwn.never rfl (qi_any (q_m0 h_Yard_beams (hr.mono (by decide)) (q_var 0))) (qg_tup rfl (qgs_cons (qg_name 1 (by decide) sc_need_steps.nd rfl (by first | exact .inl rfl | exact .inr rfl)) (qgs_cons (qg_name 2 (by decide) sc_need_steps.nd rfl (by first | exact .inl rfl | exact .inr rfl)) qgs_nil)) (gs_len_cons (gs_len_cons gs_len_nil))) (pmss_one (qs_if (QMC.t (q_lt (qb_var 2) (QM.toB q_int))) (pmss_one pms_never) pmss_nil))))

abbrev s_total_at : Stmt := topS 51
abbrev N_total_at : List Str := ["world", "weighing", "beam", "left", "right"]
theorem sc_total_at : FnScope N_total_at ["world", "weighing"] (defScope s_total_at) := ⟨rfl, rfl, rfl, by decide +kernel, rfl, by decide +kernel, by decide +kernel⟩
theorem ok_total_at (B : Blt mg) (F : Df K mg "total_at" s_total_at) (h_weight : Has P w K mg base 1 "weight" 2 m_weight) : Has P w K mg base 2 "total_at" 2 m_total_at :=
  has_of (k := 1) (os := []) (o2 := []) (ol := []) F sc_total_at rfl (fun _ _ _ _ _ _ us hl => match us, hl with | [_, _], _ => rfl) (by decide) fun f cdv A outer s H E hr =>
    (pmss_cons (qs_asg (q_var 1) (qg_tup rfl (qgs_cons (qg_name 2 (by decide) sc_total_at.nd rfl (by first | exact .inl rfl | exact .inr rfl)) (qgs_cons (qg_name 3 (by decide) sc_total_at.nd rfl (by first | exact .inl rfl | exact .inr rfl)) (qgs_cons (qg_name 4 (by decide) sc_total_at.nd rfl (by first | exact .inl rfl | exact .inr rfl)) qgs_nil))) (gs_len_cons (gs_len_cons (gs_len_cons gs_len_nil))))) (pmss_one (qs_ret (q_add (QM.toB (q_sub (QM.toB (q_f h_weight (hr.mono (by decide)) (by rfl) (qa_cons (q_var 0) (qa_cons (q_var 3) qa_nil)))) (QM.toB (q_f h_weight (hr.mono (by decide)) (by rfl) (qa_cons (q_var 0) (qa_cons (q_var 4) qa_nil)))))) (QM.toB (q_at hr (QM.toB (q_at hr (qb_var 0) (QM.toB q_int))) (qb_var 2)))))))

abbrev s_parting_at : Stmt := topS 52
abbrev N_parting_at : List Str := ["yard", "one", "other", "beam", "begin", "own", "step", "totals", "weighing", "known", "line", "shift", "first", "second", "word", "later"]
theorem sc_parting_at : FnScope N_parting_at ["yard", "one", "other", "beam", "begin"] (defScope s_parting_at) := ⟨rfl, rfl, rfl, by decide +kernel, rfl, by decide +kernel, by decide +kernel⟩
theorem ok_parting_at (B : Blt mg) (F : Df K mg "parting_at" s_parting_at) (h_Yard_step : HasM P w K mg base 3 "Yard" "step" 2 m_Yard_step) (h_weighings_at : HasN P w K mg base 3 "weighings_at" 2 m_weighings_at) (h_total_at : Has P w K mg base 2 "total_at" 2 m_total_at) (h_word_of : Has P w K mg base 1 "word_of" 1 m_word_of) (h_tired : Has P w K mg base 1 "tired" 2 m_tired) : HasN P w K mg base 4 "parting_at" 5 m_parting_at :=
  hasN_of (k := 3) (os := [9, 10]) (o2 := [9, 10]) (ol := []) F sc_parting_at rfl (fun _ _ _ _ _ _ us hl => match us, hl with | [_, _, _, _, _], _ => rfl) (by decide) (noend_seq (noend_seq (noend_seq (noend_seq noend_ret)))) fun f cdv A outer s H E hr =>
    (pmss_cons (qs_par2 5 6 rfl sc_parting_at.nd rfl rfl (by decide) rfl rfl (QM.x (QMF.toE (qf_f h_weighings_at (hr.mono (by decide)) (by rfl) (qa_cons (q_var 0) (qa_cons (q_var 3) qa_nil))))) (QM.x (q_m h_Yard_step (hr.mono (by decide)) (q_var 0) (qa_cons (q_var 3) qa_nil))) (by decide) (by decide) (by rfl)) (pmss_cons (q_setLcS [("weighing", 8)] 7 (by decide) rfl sc_parting_at.nd rfl rfl (by rfl) (qi_any (q_var 5)) (blk_of (by kernel_rfl)) (by decide) (fun s H C cl fp => (qg_name 8 (by decide) sc_parting_at.nd rfl (by first | exact .inl rfl | exact .inr rfl))) (fun s H C cl fp => qts_nil) (fun s H C cl fp => (q_tup (qa_cons (q_var 8) (qa_cons (q_f h_total_at (hr.mono (by decide)) (by rfl) (qa_cons (q_var 1) (qa_cons (q_var 8) qa_nil))) (qa_cons (q_f h_total_at (hr.mono (by decide)) (by rfl) (qa_cons (q_var 2) (qa_cons (q_var 8) qa_nil))) qa_nil)))))) (pmss_cons (qs_par2 9 10 rfl sc_parting_at.nd rfl rfl (by decide) rfl rfl (QMF.x (qf_disp (qp_cons (q_var 4) (QMF.toE (qf_lst qa_nil)) qp_nil))) (QMF.x (qf_lst (qa_cons (q_var 4) qa_nil))) (by decide) (by decide) (by rfl)) (pmss_cons (q_while PassesOwn.never (QMC.t (q_ne hr (qb_var 10) (QMF.toB (qf_lst qa_nil)))) (pmss_cons (pms_pop0 11 10 (by decide) (by decide) sc_parting_at.nd rfl (by first | exact .inl rfl | exact .inr rfl) rfl) (pmss_one (q_for PassesOwn.never rfl (qi_any (q_var 7)) (qg_tup rfl (qgs_cons (qg_name 8 (by decide) sc_parting_at.nd rfl (by first | exact .inl rfl | exact .inr rfl)) (qgs_cons (qg_name 12 (by decide) sc_parting_at.nd rfl (by first | exact .inl rfl | exact .inr rfl)) (qgs_cons (qg_name 13 (by decide) sc_parting_at.nd rfl (by first | exact .inl rfl | exact .inr rfl)) qgs_nil))) (gs_len_cons (gs_len_cons (gs_len_cons gs_len_nil)))) (pmss_cons (qs_set 14 (by decide) sc_parting_at.nd rfl (by first | exact .inl rfl | exact .inr rfl) (q_f h_word_of (hr.mono (by decide)) (by rfl) (qa_cons (q_add (qb_var 12) (qb_var 11)) qa_nil))) (pmss_cons (qs_if (QMC.t (q_ne hr (qb_var 14) (QM.toB (q_f h_word_of (hr.mono (by decide)) (by rfl) (qa_cons (q_add (qb_var 13) (qb_var 11)) qa_nil))))) (pmss_one (qs_retF (qf_cat (QM.toB (q_at hr (qb_var 9) (qb_var 11))) (QMF.toB (qf_lst (qa_cons (q_var 8) qa_nil)))))) pmss_nil) (pmss_cons (qs_set 15 (by decide) sc_parting_at.nd rfl (by first | exact .inl rfl | exact .inr rfl) (q_add (qb_var 11) (QM.toB (q_f h_tired (hr.mono (by decide)) (by rfl) (qa_cons (q_var 14) (qa_cons (q_var 6) qa_nil)))))) (pmss_one (qs_if (QMC.t (q_nin hr (qb_var 15) (qb_var 9))) (pmss_cons (qs_setD 9 hr (q_add (QM.toB (q_at hr (qb_var 9) (qb_var 11))) (QMF.toB (qf_lst (qa_cons (q_var 8) qa_nil)))) (qb_var 15)) (pmss_one (qs_app 10 (q_var 15)))) pmss_nil))))))))) (pmss_one (qs_retF qf_non))))))

abbrev s_parting : Stmt := topS 53
abbrev N_parting : List Str := ["yard", "one", "other", "log", "found", "begins", "beam", "step", "some"]
theorem sc_parting : FnScope N_parting ["yard", "one", "other", "log"] (defScope s_parting) := ⟨rfl, rfl, rfl, by decide +kernel, rfl, by decide +kernel, by decide +kernel⟩
theorem okC_parting (B : Blt mg) (F : DfKw K mg "parting" s_parting "log" (.tup [])) (h_Yard_beams : HasM P w K mg base 1 "Yard" "beams" 1 m_Yard_beams) (h_need_steps : Has P w K mg base 2 "need_steps" 1 m_need_steps) (h_need_world : Has P w K mg base 5 "need_world" 2 m_need_world) (h_is_world : Has P w K mg base 6 "is_world" 3 m_is_world) (h_shifts : Has P w K mg base 6 "shifts" 2 m_shifts) (h_parting_at : HasN P w K mg base 4 "parting_at" 5 m_parting_at) : HasC (spN K mg) P w K mg base 7 "parting" s_parting ["yard", "one", "other", "log"] 4 m_parting :=
  hasCN_of (k := 6) (os := [4, 8]) (o2 := [4, 8]) (ol := []) F.df sc_parting rfl (by decide) (noend_seq (noend_seq (noend_seq (noend_seq (noend_seq (noend_seq noend_ret)))))) fun f cdv A outer s H E hr =>
    (pmss_cons (qs_drop (q_f h_need_steps (hr.mono (by decide)) (by rfl) (qa_cons (q_var 0) qa_nil))) (pmss_cons (qs_drop (q_f h_need_world (hr.mono (by decide)) (by rfl) (qa_cons (q_var 0) (qa_cons (q_var 1) qa_nil)))) (pmss_cons (qs_drop (q_f h_need_world (hr.mono (by decide)) (by rfl) (qa_cons (q_var 0) (qa_cons (q_var 2) qa_nil)))) (pmss_cons (qs_if (QMW.t (qw_or (qt_not (qt_val (q_f h_is_world (hr.mono (by decide)) (by rfl) (qa_cons (q_var 0) (qa_cons (q_var 3) (qa_cons (q_var 1) qa_nil)))))) (qw_or1 (qt_not (qt_val (q_f h_is_world (hr.mono (by decide)) (by rfl) (qa_cons (q_var 0) (qa_cons (q_var 3) (qa_cons (q_var 2) qa_nil))))))))) (pmss_one pms_never) pmss_nil) (pmss_cons (qs_par2 4 5 rfl sc_parting.nd rfl rfl (by decide) rfl rfl (QMF.x qf_non) (QM.x (q_f h_shifts (hr.mono (by decide)) (by rfl) (qa_cons (q_var 0) (qa_cons (q_var 3) qa_nil)))) (by decide) (by decide) (by rfl)) (pmss_cons (q_for PassesOwn.never rfl (qi_any (q_m0 h_Yard_beams (hr.mono (by decide)) (q_var 0))) (qg_tup rfl (qgs_cons (qg_name 6 (by decide) sc_parting.nd rfl (by first | exact .inl rfl | exact .inr rfl)) (qgs_cons (qg_name 7 (by decide) sc_parting.nd rfl (by first | exact .inl rfl | exact .inr rfl)) qgs_nil)) (gs_len_cons (gs_len_cons gs_len_nil))) (pmss_cons (qs_setN 8 (by decide) sc_parting.nd rfl (by first | exact .inl rfl | exact .inr rfl) (qf_f h_parting_at (hr.mono (by decide)) (by rfl) (qa_cons (q_var 0) (qa_cons (q_var 1) (qa_cons (q_var 2) (qa_cons (q_var 6) (qa_cons (q_at hr (qb_var 5) (qb_var 6)) qa_nil))))))) (pmss_one (qs_if (QMW.t (qw_and (QMC.t (q_notN (qb_var 8) (QM.toB q_non))) (qw_and1 (QMW.t (qw_or (QMC.t (q_isN (qb_var 4) (QM.toB q_non))) (qw_or1 (QMC.t (q_lt (QM.toB (q_len (by rfl) (B _ (by decide)) (qb_var 8))) (QM.toB (q_len (by rfl) (B _ (by decide)) (qb_var 4))))))))))) (pmss_one (pms_move 4 8 (by decide) (by decide) (by decide) sc_parting.nd rfl (by first | exact .inl rfl | exact .inr rfl) rfl)) pmss_nil)))) (pmss_one (pms_retO 4))))))))
theorem ok_parting (B : Blt mg) (F : DfKw K mg "parting" s_parting "log" (.tup [])) (h_Yard_beams : HasM P w K mg base 1 "Yard" "beams" 1 m_Yard_beams) (h_need_steps : Has P w K mg base 2 "need_steps" 1 m_need_steps) (h_need_world : Has P w K mg base 5 "need_world" 2 m_need_world) (h_is_world : Has P w K mg base 6 "is_world" 3 m_is_world) (h_shifts : Has P w K mg base 6 "shifts" 2 m_shifts) (h_parting_at : HasN P w K mg base 4 "parting_at" 5 m_parting_at) : HasD (spN K mg) P w K mg base 7 "parting" 3 m_parting (.tup []) := (okC_parting B F h_Yard_beams h_need_steps h_need_world h_is_world h_shifts h_parting_at).posD F rfl fun _ _ _ _ _ _ us ks h1 h2 => match us, ks, h1, h2 with | [_, _, _], [_], _, _ => ⟨_, _, _, _, _, _, rfl, rfl, rfl⟩

abbrev s_alike : Stmt := topS 54
abbrev N_alike : List Str := ["yard", "one", "other"]
theorem sc_alike : FnScope N_alike ["yard", "one", "other"] (defScope s_alike) := ⟨rfl, rfl, rfl, by decide +kernel, rfl, by decide +kernel, by decide +kernel⟩
theorem okC_alike (B : Blt mg) (F : Df K mg "alike" s_alike) (h_parting : HasD (spN K mg) P w K mg base 7 "parting" 3 m_parting (.tup [])) : HasC (spM K mg) P w K mg base 8 "alike" s_alike ["yard", "one", "other"] 3 m_alike :=
  hasC_of (k := 7) (os := []) (o2 := []) (ol := []) F sc_alike rfl (by decide) fun f cdv A outer s H E hr =>
    (pmss_one (qs_ret (QMC.e (q_isN (QMF.toB (pmf_fDq h_parting (hr.mono (by decide)) (by rfl) (qa_cons (q_var 0) (qa_cons (q_var 1) (qa_cons (q_var 2) qa_nil))))) (QM.toB q_non)))))
theorem ok_alike (B : Blt mg) (F : Df K mg "alike" s_alike) (h_parting : HasD (spN K mg) P w K mg base 7 "parting" 3 m_parting (.tup [])) : Has P w K mg base 8 "alike" 3 m_alike := (okC_alike B F h_parting).pos fun _ _ _ _ _ _ us hl => match us, hl with | [_, _, _], _ => rfl
theorem okK_alike (B : Blt mg) (F : Df K mg "alike" s_alike) (h_parting : HasD (spN K mg) P w K mg base 7 "parting" 3 m_parting (.tup [])) : HasK P w K mg base 8 "alike" 3 ["other", "one", "yard"] [2, 1, 0] m_alike := (okC_alike B F h_parting).kw rfl (by decide) fun _ _ _ _ _ _ us hl => match us, hl with | [_, _, _], _ => rfl

abbrev s__law_next : Stmt := topS 57
abbrev N__law_next : List Str := ["state", "size", "found", "turn", "cell", "mixed"]
theorem sc__law_next : FnScope N__law_next ["state", "size"] (defScope s__law_next) := ⟨rfl, rfl, rfl, by decide +kernel, rfl, by decide +kernel, by decide +kernel⟩
theorem ok__law_next (B : Blt mg) (F : Df K mg "_law_next" s__law_next) : Has P w K mg base 1 "_law_next" 2 m__law_next :=
  has_of (k := 0) (os := []) (o2 := []) (ol := []) F sc__law_next rfl (fun _ _ _ _ _ _ us hl => match us, hl with | [_, _], _ => rfl) (by decide) fun f cdv A outer s H E hr =>
    (pmss_cons (q_while PassesOwn.never (QMW.t (qw_and (QMC.t (q_eq hr (QM.toB (q_stI 0 "digits" Drw.dg st_dg hr)) (QM.toB q_int))) (qw_and1 (QMC.t (q_stNe 0 "great" Drw.gr SA.g st_gr (fun _ _ _ h => h.g) hr))))) (pmss_one (pms_stPop 0 hr))) (pmss_cons (qs_if (QMC.t (q_gt (QM.toB (q_stI 0 "digits" Drw.dg st_dg hr)) (QM.toB q_int))) (pmss_cons (qs_set 2 (by decide) sc__law_next.nd rfl (by first | exact .inl rfl | exact .inr rfl) (q_mod (QM.toB (q_stI 0 "digits" Drw.dg st_dg hr)) (qb_var 1))) (pmss_cons (qs_stDg 0 hr (q_div (QM.toB (q_stI 0 "digits" Drw.dg st_dg hr)) (qb_var 1))) (pmss_one (qs_ret (q_var 2))))) pmss_nil) (pmss_cons (pms_stTn 0 hr) (pmss_cons (qs_set 3 (by decide) sc__law_next.nd rfl (by first | exact .inl rfl | exact .inr rfl) (q_stI 0 "turn" Drw.tn st_tn hr)) (pmss_cons (qs_set 4 (by decide) sc__law_next.nd rfl (by first | exact .inl rfl | exact .inr rfl) q_int) (pmss_cons (qs_if (QMC.t (q_stNe 0 "cells" Drw.ce SA.c st_ce (fun _ _ _ h => h.c) hr)) (pmss_one (qs_set 4 (by decide) sc__law_next.nd rfl (by first | exact .inl rfl | exact .inr rfl) (q_stCe 0 hr (QM.toB (q_mod (qb_var 3) (QM.toB (q_stLen 0 hr (by rfl) (B _ (by decide))))))))) pmss_nil) (pmss_cons (qs_set 5 (by decide) sc__law_next.nd rfl (by first | exact .inl rfl | exact .inr rfl) (q_mod (QM.toB (q_pow (QM.toB (q_add (QM.toB (q_mod (qb_var 4) (QM.toB q_int))) (QM.toB (q_mul (QM.toB q_int) (qb_var 3))))) (QM.toB q_int))) (QM.toB q_int))) (pmss_one (qs_ret (q_mod (QM.toB (q_div (QM.toB (q_mod (QM.toB (q_pow (QM.toB (q_add (qb_var 5) (QM.toB (q_mul (QM.toB q_int) (qb_var 3))))) (QM.toB q_int))) (QM.toB q_int))) (QM.toB q_int))) (qb_var 1)))))))))))

abbrev s__law_pick : Stmt := topS 58
abbrev N__law_pick : List Str := ["state", "some"]
theorem sc__law_pick : FnScope N__law_pick ["state", "some"] (defScope s__law_pick) := ⟨rfl, rfl, rfl, by decide +kernel, rfl, by decide +kernel, by decide +kernel⟩
theorem ok__law_pick (B : Blt mg) (F : Df K mg "_law_pick" s__law_pick) (h__law_next : Has P w K mg base 1 "_law_next" 2 m__law_next) : Has P w K mg base 2 "_law_pick" 2 m__law_pick :=
  has_of (k := 1) (os := []) (o2 := []) (ol := []) F sc__law_pick rfl (fun _ _ _ _ _ _ us hl => match us, hl with | [_, _], _ => rfl) (by decide) fun f cdv A outer s H E hr =>
    (pmss_one (qs_ret (q_at hr (qb_var 1) (QM.toB (q_f h__law_next (hr.mono (by decide)) (by rfl) (qa_cons (q_var 0) (qa_cons (q_len (by rfl) (B _ (by decide)) (qb_var 1)) qa_nil)))))))

abbrev s__law_names : Stmt := topS 59
abbrev N__law_names : List Str := ["state", "many", "letters", "base", "k", "at", "shift", "step", "names"]
theorem sc__law_names : FnScope N__law_names ["state", "many"] (defScope s__law_names) := ⟨rfl, rfl, rfl, by decide +kernel, rfl, by decide +kernel, by decide +kernel⟩
theorem ok__law_names (B : Blt mg) (F : Df K mg "_law_names" s__law_names) (h__law_next : Has P w K mg base 1 "_law_next" 2 m__law_next) (h__law_pick : Has P w K mg base 2 "_law_pick" 2 m__law_pick) : Has P w K mg base 3 "_law_names" 2 m__law_names :=
  has_of (k := 2) (os := [3, 8]) (o2 := [3, 8]) (ol := []) F sc__law_names rfl (fun _ _ _ _ _ _ us hl => match us, hl with | [_, _], _ => rfl) (by decide) fun f cdv A outer s H E hr =>
    (pmss_cons (qs_set 2 (by decide) sc__law_names.nd rfl (by first | exact .inl rfl | exact .inr rfl) q_str) (pmss_cons (q_setLc [("k", 4)] 3 (by decide) rfl sc__law_names.nd rfl rfl (by rfl) (qi_range1 (by rfl) (B _ (by decide)) (qa_cons (q_add (QM.toB q_int) (QM.toB (q_f h__law_next (hr.mono (by decide)) (by rfl) (qa_cons (q_var 0) (qa_cons q_int qa_nil))))) qa_nil) (h1 := aLen1)) (blk_of (by kernel_rfl)) (by decide) (fun s H C cl fp => (qg_name 4 (by decide) sc__law_names.nd rfl (by first | exact .inl rfl | exact .inr rfl))) (fun s H C cl fp => qts_nil) (fun s H C cl fp => (q_f h__law_pick (hr.mono (by decide)) (by rfl) (qa_cons (q_var 0) (qa_cons (q_var 2) qa_nil))))) (pmss_cons (qs_set 5 (by decide) sc__law_names.nd rfl (by first | exact .inl rfl | exact .inr rfl) (q_f h__law_next (hr.mono (by decide)) (by rfl) (qa_cons (q_var 0) (qa_cons (q_len (by rfl) (B _ (by decide)) (qb_var 3)) qa_nil)))) (pmss_cons (qs_par2 6 7 rfl sc__law_names.nd rfl rfl (by decide) rfl rfl (QM.x (q_f h__law_next (hr.mono (by decide)) (by rfl) (qa_cons (q_var 0) (qa_cons q_int qa_nil)))) (QM.x (q_f h__law_pick (hr.mono (by decide)) (by rfl) (qa_cons (q_var 0) (qa_cons (QMF.toE (qf_lst (qa_cons q_int (qa_cons q_int (qa_cons q_int (qa_cons q_int (qa_cons q_int (qa_cons q_int qa_nil)))))))) qa_nil)))) (by decide) (by decide) (by rfl)) (pmss_cons (qs_setN 8 (by decide) sc__law_names.nd rfl (by first | exact .inl rfl | exact .inr rfl) (qf_lst qa_nil)) (pmss_cons (q_for PassesOwn.never rfl (qi_range1 (by rfl) (B _ (by decide)) (qa_cons (q_var 1) qa_nil) (h1 := aLen1)) (qg_name 4 (by decide) sc__law_names.nd rfl (by first | exact .inl rfl | exact .inr rfl)) (pmss_cons (qs_setL 3 (q_at hr (qb_var 2) (QM.toB (q_mod (QM.toB (q_add (qb_var 6) (QM.toB (q_mul (qb_var 7) (qb_var 4))))) (QM.toB q_int)))) (qb_var 5)) (pmss_one (qs_app 8 (q_join (QM.toB q_str) (qb_var 3)))))) (pmss_one (pms_retO 8))))))))

abbrev s__law_row : Stmt := topS 60
abbrev N__law_row : List Str := ["state", "beams", "things", "heavy", "far", "names", "many", "steps", "k", "called", "told"]
theorem sc__law_row : FnScope N__law_row ["state", "beams", "things", "heavy", "far"] (defScope s__law_row) := ⟨rfl, rfl, rfl, by decide +kernel, rfl, by decide +kernel, by decide +kernel⟩
theorem ok__law_row (B : Blt mg) (F : Df K mg "_law_row" s__law_row) (h__law_next : Has P w K mg base 1 "_law_next" 2 m__law_next) (h__law_names : Has P w K mg base 3 "_law_names" 2 m__law_names) (h__law_pick : Has P w K mg base 2 "_law_pick" 2 m__law_pick) : Has P w K mg base 4 "_law_row" 5 m__law_row :=
  has_of (k := 3) (os := []) (o2 := []) (ol := []) F sc__law_row rfl (fun _ _ _ _ _ _ us hl => match us, hl with | [_, _, _, _, _], _ => rfl) (by decide) fun f cdv A outer s H E hr =>
    (pmss_cons (qs_set 5 (by decide) sc__law_row.nd rfl (by first | exact .inl rfl | exact .inr rfl) (q_f h__law_names (hr.mono (by decide)) (by rfl) (qa_cons (q_var 0) (qa_cons (q_add (QM.toB q_int) (QM.toB (q_f h__law_next (hr.mono (by decide)) (by rfl) (qa_cons (q_var 0) (qa_cons (q_var 2) qa_nil))))) qa_nil)))) (pmss_cons (qs_set 6 (by decide) sc__law_row.nd rfl (by first | exact .inl rfl | exact .inr rfl) (q_add (QM.toB q_int) (QM.toB (q_f h__law_next (hr.mono (by decide)) (by rfl) (qa_cons (q_var 0) (qa_cons (q_var 1) qa_nil)))))) (pmss_cons (q_setLcS [("k", 8)] 7 (by decide) rfl sc__law_row.nd rfl rfl (by rfl) (qi_range1 (by rfl) (B _ (by decide)) (qa_cons (q_var 6) qa_nil) (h1 := aLen1)) (blk_of (by kernel_rfl)) (by decide) (fun s H C cl fp => (qg_name 8 (by decide) sc__law_row.nd rfl (by first | exact .inl rfl | exact .inr rfl))) (fun s H C cl fp => qts_nil) (fun s H C cl fp => (q_f h__law_pick (hr.mono (by decide)) (by rfl) (qa_cons (q_var 0) (qa_cons (QMF.toE (qf_lst (qa_cons q_int (qa_cons q_int (qa_cons q_int (qa_cons (q_neg (QM.toB q_int)) (qa_cons q_int (qa_cons (q_neg (QM.toB q_int)) (qa_cons q_int (qa_cons (q_neg (QM.toB q_int)) (qa_cons (q_neg (QM.toB q_int)) (qa_cons (q_neg (QM.toB q_int)) qa_nil)))))))))))) qa_nil))))) (pmss_cons (qs_set 9 (by decide) sc__law_row.nd rfl (by first | exact .inl rfl | exact .inr rfl) (q_f h__law_names (hr.mono (by decide)) (by rfl) (qa_cons (q_var 0) (qa_cons (q_var 6) qa_nil)))) (pmss_cons (qs_if (QMW.t (qw_and (QMC.t (q_eq hr (QM.toB (q_f h__law_next (hr.mono (by decide)) (by rfl) (qa_cons (q_var 0) (qa_cons q_int qa_nil)))) (QM.toB q_int))) (qw_and1 (QMC.t (q_ge (QM.toB (q_len (by rfl) (B _ (by decide)) (qb_var 5))) (qb_var 6)))))) (pmss_one (qs_set 9 (by decide) sc__law_row.nd rfl (by first | exact .inl rfl | exact .inr rfl) (q_sl (QMF.toB (qf_rev (qb_var 5))) qo_none (qo_some (qb_var 6))))) pmss_nil) (pmss_cons (qs_set 10 (by decide) sc__law_row.nd rfl (by first | exact .inl rfl | exact .inr rfl) (QMF.toE (qf_zipL rfl (by rfl) (B _ (by decide)) (by rfl) (B _ (by decide)) (qa_cons (q_var 9) (qa_cons (q_var 7) qa_nil))))) (pmss_one (qs_ret (q_tup (qa_cons (q_var 5) (qa_cons (q_var 10) (qa_cons (q_add (QM.toB q_int) (QM.toB (q_f h__law_next (hr.mono (by decide)) (by rfl) (qa_cons (q_var 0) (qa_cons (q_var 3) qa_nil))))) (qa_cons (q_f h__law_next (hr.mono (by decide)) (by rfl) (qa_cons (q_var 0) (qa_cons (q_add (QM.toB q_int) (QM.toB (q_min rfl (by rfl) (B _ (by decide)) (qb_var 4) (QM.toB (q_at hr (QMF.toB (qf_lst (qa_cons q_int (qa_cons q_int (qa_cons q_int qa_nil))))) (QM.toB (q_sub (qb_var 6) (QM.toB q_int)))))))) qa_nil))) qa_nil)))))))))))))

abbrev s__law_world : Stmt := topS 61
abbrev N__law_world : List Str := ["state", "row", "weights", "name", "step"]
theorem sc__law_world : FnScope N__law_world ["state", "row"] (defScope s__law_world) := ⟨rfl, rfl, rfl, by decide +kernel, rfl, by decide +kernel, by decide +kernel⟩
theorem ok__law_world (B : Blt mg) (F : Df K mg "_law_world" s__law_world) (h__law_next : Has P w K mg base 1 "_law_next" 2 m__law_next) : Has P w K mg base 2 "_law_world" 2 m__law_world :=
  has_of (k := 1) (os := []) (o2 := []) (ol := []) F sc__law_world rfl (fun _ _ _ _ _ _ us hl => match us, hl with | [_, _], _ => rfl) (by decide) fun f cdv A outer s H E hr =>
    (pmss_cons (qs_set 2 (by decide) sc__law_world.nd rfl (by first | exact .inl rfl | exact .inr rfl) (QMF.toE (qf_dict rfl (by rfl) (B _ (by decide)) (QMF.toB (qf_lc [("name", 3)] rfl sc__law_world.nd (qi_any (q_at hr (qb_var 1) (QM.toB q_int))) (blk_of (by kernel_rfl)) (by decide) (fun s H C cl fp => (qg_name 3 (by decide) sc__law_world.nd rfl (by first | exact .inl rfl | exact .inr rfl))) (fun s H C cl fp => qts_nil) (fun s H C cl fp => (q_tup (qa_cons (q_var 3) (qa_cons (q_add (QM.toB q_int) (QM.toB (q_f h__law_next (hr.mono (by decide)) (by rfl) (qa_cons (q_var 0) (qa_cons (q_at hr (qb_var 1) (QM.toB q_int)) qa_nil))))) qa_nil))))))))) (pmss_one (qs_ret (q_tup (qa_cons (q_var 2) (qa_cons (QMF.toE (qf_dict rfl (by rfl) (B _ (by decide)) (QMF.toB (qf_lc [("name", 3), ("step", 4)] rfl sc__law_world.nd (qi_any (q_at hr (qb_var 1) (QM.toB q_int))) (blk_of (by kernel_rfl)) (by decide) (fun s H C cl fp => (qg_tup rfl (qgs_cons (qg_name 3 (by decide) sc__law_world.nd rfl (by first | exact .inl rfl | exact .inr rfl)) (qgs_cons (qg_name 4 (by decide) sc__law_world.nd rfl (by first | exact .inl rfl | exact .inr rfl)) qgs_nil)) (gs_len_cons (gs_len_cons gs_len_nil)))) (fun s H C cl fp => qts_nil) (fun s H C cl fp => (q_tup (qa_cons (q_var 3) (qa_cons (q_sub (QM.toB (q_f h__law_next (hr.mono (by decide)) (by rfl) (qa_cons (q_var 0) (qa_cons (q_add (QM.toB (q_mul (QM.toB q_int) (QM.toB (q_at hr (qb_var 1) (QM.toB q_int))))) (QM.toB q_int)) qa_nil)))) (QM.toB (q_at hr (qb_var 1) (QM.toB q_int)))) qa_nil)))))))) qa_nil))))))

abbrev s__law_sign : Stmt := topS 62
abbrev N__law_sign : List Str := ["total"]
theorem sc__law_sign : FnScope N__law_sign ["total"] (defScope s__law_sign) := ⟨rfl, rfl, rfl, by decide +kernel, rfl, by decide +kernel, by decide +kernel⟩
theorem ok__law_sign (B : Blt mg) (F : Df K mg "_law_sign" s__law_sign) : Has P w K mg base 1 "_law_sign" 1 m__law_sign :=
  has_of (k := 0) (os := []) (o2 := []) (ol := []) F sc__law_sign rfl (fun _ _ _ _ _ _ us hl => match us, hl with | [_], _ => rfl) (by decide) fun f cdv A outer s H E hr =>
    (pmss_one (qs_ret (q_sub (QM.toB (q_intOf (by rfl) (B _ (by decide)) (QM.toB (QMC.e (q_gt (qb_var 0) (QM.toB q_int)))))) (QM.toB (q_intOf (by rfl) (B _ (by decide)) (QM.toB (QMC.e (q_lt (qb_var 0) (QM.toB q_int)))))))))

abbrev s__law_told : Stmt := topS 63
abbrev N__law_told : List Str := ["row", "world", "some", "leans", "steps", "found", "beam", "left", "right", "sign"]
theorem sc__law_told : FnScope N__law_told ["row", "world", "some"] (defScope s__law_told) := ⟨rfl, rfl, rfl, by decide +kernel, rfl, by decide +kernel, by decide +kernel⟩
theorem ok__law_told (B : Blt mg) (F : Df K mg "_law_told" s__law_told) (h__law_sign : Has P w K mg base 1 "_law_sign" 1 m__law_sign) : Has P w K mg base 2 "_law_told" 3 m__law_told :=
  has_of (k := 1) (os := [3, 5]) (o2 := [3, 5]) (ol := []) F sc__law_told rfl (fun _ _ _ _ _ _ us hl => match us, hl with | [_, _, _], _ => rfl) (by decide) fun f cdv A outer s H E hr =>
    (pmss_cons (qs_par2 3 4 rfl sc__law_told.nd rfl rfl (by decide) rfl rfl (QMF.x (qf_dict rfl (by rfl) (B _ (by decide)) (QM.toB (q_at hr (qb_var 1) (QM.toB q_int))))) (QM.x (QMF.toE (qf_dict rfl (by rfl) (B _ (by decide)) (QM.toB (q_at hr (qb_var 0) (QM.toB q_int)))))) (by decide) (by decide) (by rfl)) (pmss_cons (qs_setN 5 (by decide) sc__law_told.nd rfl (by first | exact .inl rfl | exact .inr rfl) (qf_lst qa_nil)) (pmss_cons (q_for PassesOwn.never rfl (qi_any (q_var 2)) (qg_tup rfl (qgs_cons (qg_name 6 (by decide) sc__law_told.nd rfl (by first | exact .inl rfl | exact .inr rfl)) (qgs_cons (qg_name 7 (by decide) sc__law_told.nd rfl (by first | exact .inl rfl | exact .inr rfl)) (qgs_cons (qg_name 8 (by decide) sc__law_told.nd rfl (by first | exact .inl rfl | exact .inr rfl)) qgs_nil))) (gs_len_cons (gs_len_cons (gs_len_cons gs_len_nil)))) (pmss_cons (qs_set 9 (by decide) sc__law_told.nd rfl (by first | exact .inl rfl | exact .inr rfl) (q_f h__law_sign (hr.mono (by decide)) (by rfl) (qa_cons (q_add (QM.toB (q_sub (QM.toB (q_get2 hr (QM.toB (q_at hr (qb_var 1) (QM.toB q_int))) (qb_var 7) q_int)) (QM.toB (q_get2 hr (QM.toB (q_at hr (qb_var 1) (QM.toB q_int))) (qb_var 8) q_int)))) (QM.toB (q_at hr (qb_var 3) (qb_var 6)))) qa_nil))) (pmss_cons (qs_setD 3 hr (q_sub (QM.toB (q_at hr (qb_var 3) (qb_var 6))) (QM.toB (q_mul (QM.toB (q_at hr (qb_var 4) (qb_var 6))) (qb_var 9)))) (qb_var 6)) (pmss_one (qs_app 5 (q_tup (qa_cons (q_var 6) (qa_cons (q_var 7) (qa_cons (q_var 8) (qa_cons (q_at hr (QMF.toB (qf_lst (qa_cons q_str (qa_cons q_str (qa_cons q_str qa_nil))))) (QM.toB (q_add (QM.toB q_int) (qb_var 9)))) qa_nil)))))))))) (pmss_one (pms_retO 5)))))

abbrev s__law_up : Stmt := topS 64
abbrev N__law_up : List Str := ["row", "name", "step"]
theorem sc__law_up : FnScope N__law_up ["row"] (defScope s__law_up) := ⟨rfl, rfl, rfl, by decide +kernel, rfl, by decide +kernel, by decide +kernel⟩
theorem ok__law_up (B : Blt mg) (F : Df K mg "_law_up" s__law_up) : Has P w K mg base 1 "_law_up" 1 m__law_up :=
  has_of (k := 0) (os := []) (o2 := []) (ol := []) F sc__law_up rfl (fun _ _ _ _ _ _ us hl => match us, hl with | [_], _ => rfl) (by decide) fun f cdv A outer s H E hr =>
    (pmss_one (qs_ret (q_add (QM.toB (q_add (QM.toB (q_sl (qb_var 0) qo_none (qo_some (QM.toB q_int)))) (QM.toB (q_tup (qa_cons (QMF.toE (qf_lc [("name", 1), ("step", 2)] rfl sc__law_up.nd (qi_any (q_at hr (qb_var 0) (QM.toB q_int))) (blk_of (by kernel_rfl)) (by decide) (fun s H C cl fp => (qg_tup rfl (qgs_cons (qg_name 1 (by decide) sc__law_up.nd rfl (by first | exact .inl rfl | exact .inr rfl)) (qgs_cons (qg_name 2 (by decide) sc__law_up.nd rfl (by first | exact .inl rfl | exact .inr rfl)) qgs_nil)) (gs_len_cons (gs_len_cons gs_len_nil)))) (fun s H C cl fp => qts_nil) (fun s H C cl fp => (q_tup (qa_cons (q_var 1) (qa_cons (q_abs (by rfl) (B _ (by decide)) (qb_var 2)) qa_nil)))))) qa_nil))))) (QM.toB (q_sl (qb_var 0) (qo_some (QM.toB q_int)) qo_none)))))

abbrev s__law_marks : Stmt := topS 65
abbrev N__law_marks : List Str := ["row", "world", "found", "places", "name", "step", "left", "right", "total"]
theorem sc__law_marks : FnScope N__law_marks ["row", "world"] (defScope s__law_marks) := ⟨rfl, rfl, rfl, by decide +kernel, rfl, by decide +kernel, by decide +kernel⟩
theorem ok__law_marks (B : Blt mg) (F : Df K mg "_law_marks" s__law_marks) : Has P w K mg base 1 "_law_marks" 2 m__law_marks :=
  has_of (k := 0) (os := [2]) (o2 := [2]) (ol := []) F sc__law_marks rfl (fun _ _ _ _ _ _ us hl => match us, hl with | [_, _], _ => rfl) (by decide) fun f cdv A outer s H E hr =>
    (pmss_cons (qs_par2 2 3 rfl sc__law_marks.nd rfl rfl (by decide) rfl rfl (QMF.x (qf_lst qa_nil)) (QM.x (q_add (QMF.toB (qf_lst (qa_cons q_non qa_nil))) (QM.toB (q_at hr (qb_var 0) (QM.toB q_int))))) (by decide) (by decide) (by rfl)) (pmss_cons (q_for PassesOwn.never rfl (qi_any (q_at hr (qb_var 0) (QM.toB q_int))) (qg_tup rfl (qgs_cons (qg_name 4 (by decide) sc__law_marks.nd rfl (by first | exact .inl rfl | exact .inr rfl)) (qgs_cons (qg_name 5 (by decide) sc__law_marks.nd rfl (by first | exact .inl rfl | exact .inr rfl)) qgs_nil)) (gs_len_cons (gs_len_cons gs_len_nil))) (pmss_one (q_for PassesOwn.never rfl (qi_any (q_var 3)) (qg_name 6 (by decide) sc__law_marks.nd rfl (by first | exact .inl rfl | exact .inr rfl)) (pmss_one (q_for PassesOwn.never rfl (qi_any (q_var 3)) (qg_name 7 (by decide) sc__law_marks.nd rfl (by first | exact .inl rfl | exact .inr rfl)) (pmss_one (qs_if (QMW.t (qw_or (QMC.t (q_isN (qb_var 6) (QM.toB q_non))) (qw_or1 (QMC.t (q_ne hr (qb_var 6) (qb_var 7)))))) (pmss_cons (qs_set 8 (by decide) sc__law_marks.nd rfl (by first | exact .inl rfl | exact .inr rfl) (q_add (QM.toB (q_sub (QM.toB (q_get2 hr (QM.toB (q_at hr (qb_var 1) (QM.toB q_int))) (qb_var 6) q_int)) (QM.toB (q_get2 hr (QM.toB (q_at hr (qb_var 1) (QM.toB q_int))) (qb_var 7) q_int)))) (QM.toB (q_at hr (QM.toB (q_at hr (qb_var 1) (QM.toB q_int))) (qb_var 4))))) (pmss_one (qs_app 2 (q_tup (qa_cons (q_div (qb_var 8) (qb_var 5)) (qa_cons (QMC.e (q_eq hr (QM.toB (q_mod (qb_var 8) (qb_var 5))) (QM.toB q_int))) qa_nil)))))) pmss_nil))))))) (pmss_one (pms_retO 2))))

abbrev s__law_turned : Stmt := topS 66
abbrev N__law_turned : List Str := ["state", "pair", "part"]
theorem sc__law_turned : FnScope N__law_turned ["state", "pair"] (defScope s__law_turned) := ⟨rfl, rfl, rfl, by decide +kernel, rfl, by decide +kernel, by decide +kernel⟩
theorem ok__law_turned (B : Blt mg) (F : Df K mg "_law_turned" s__law_turned) (h__law_next : Has P w K mg base 1 "_law_next" 2 m__law_next) : Has P w K mg base 2 "_law_turned" 2 m__law_turned :=
  has_of (k := 1) (os := []) (o2 := []) (ol := []) F sc__law_turned rfl (fun _ _ _ _ _ _ us hl => match us, hl with | [_, _], _ => rfl) (by decide) fun f cdv A outer s H E hr =>
    (pmss_cons (qs_if (QMC.t (q_gt (QM.toB (q_f h__law_next (hr.mono (by decide)) (by rfl) (qa_cons (q_var 0) (qa_cons q_int qa_nil)))) (QM.toB q_int))) (pmss_one (qs_ret (q_var 1))) pmss_nil) (pmss_one (qs_ret (q_tuple (by rfl) (B _ (by decide)) (QMF.toB (qf_lc [("part", 2)] rfl sc__law_turned.nd (qi_any (q_var 1)) (blk_of (by kernel_rfl)) (by decide) (fun s H C cl fp => (qg_name 2 (by decide) sc__law_turned.nd rfl (by first | exact .inl rfl | exact .inr rfl))) (fun s H C cl fp => qts_nil) (fun s H C cl fp => (QMF.toE (qf_dict rfl (by rfl) (B _ (by decide)) (QMF.toB (qf_rev (QMF.toB (qf_itL rfl (by rfl) (B _ (by decide)) (qb_var 2))))))))))))))

abbrev s__law_near : Stmt := topS 67
abbrev N__law_near : List Str := ["state", "row", "world", "way", "weights", "leans", "by", "fated", "name", "step"]
theorem sc__law_near : FnScope N__law_near ["state", "row", "world"] (defScope s__law_near) := ⟨rfl, rfl, rfl, by decide +kernel, rfl, by decide +kernel, by decide +kernel⟩
theorem ok__law_near (B : Blt mg) (F : Df K mg "_law_near" s__law_near) (h__law_next : Has P w K mg base 1 "_law_next" 2 m__law_next) (h__law_world : Has P w K mg base 2 "_law_world" 2 m__law_world) (h__law_pick : Has P w K mg base 2 "_law_pick" 2 m__law_pick) : Has P w K mg base 3 "_law_near" 3 m__law_near :=
  has_of (k := 2) (os := [4, 5]) (o2 := []) (ol := []) F sc__law_near rfl (fun _ _ _ _ _ _ us hl => match us, hl with | [_, _, _], _ => rfl) (by decide) fun f cdv A outer s H E hr =>
    (pmss_cons (qs_set 3 (by decide) sc__law_near.nd rfl (by first | exact .inl rfl | exact .inr rfl) (q_f h__law_next (hr.mono (by decide)) (by rfl) (qa_cons (q_var 0) (qa_cons q_int qa_nil)))) (pmss_cons (qs_if (QMC.t (q_eq hr (qb_var 3) (QM.toB q_int))) (pmss_one (qs_ret (q_f h__law_world (hr.mono (by decide)) (by rfl) (qa_cons (q_var 0) (qa_cons (q_var 1) qa_nil))))) pmss_nil) (pmss_cons (qs_par2 4 5 rfl sc__law_near.nd rfl rfl (by decide) rfl rfl (QMF.x (qf_dict rfl (by rfl) (B _ (by decide)) (QM.toB (q_at hr (qb_var 2) (QM.toB q_int))))) (QMF.x (qf_dict rfl (by rfl) (B _ (by decide)) (QM.toB (q_at hr (qb_var 2) (QM.toB q_int))))) (by decide) (by decide) (by rfl)) (pmss_cons (qs_set 6 (by decide) sc__law_near.nd rfl (by first | exact .inl rfl | exact .inr rfl) (q_f h__law_pick (hr.mono (by decide)) (by rfl) (qa_cons (q_var 0) (qa_cons (QMF.toE (qf_lst (qa_cons q_int (qa_cons (q_neg (QM.toB q_int)) (qa_cons (q_at hr (QM.toB (q_at hr (QM.toB (q_at hr (qb_var 1) (QM.toB q_int))) (QM.toB q_int))) (QM.toB q_int)) (qa_cons (q_neg (QM.toB (q_at hr (QM.toB (q_at hr (QM.toB (q_at hr (qb_var 1) (QM.toB q_int))) (QM.toB q_int))) (QM.toB q_int)))) (qa_cons q_int qa_nil))))))) qa_nil)))) (pmss_cons (qs_set 7 (by decide) sc__law_near.nd rfl (by first | exact .inl rfl | exact .inr rfl) (q_f h__law_pick (hr.mono (by decide)) (by rfl) (qa_cons (q_var 0) (qa_cons (q_at hr (qb_var 1) (QM.toB q_int)) qa_nil)))) (pmss_cons (q_for PassesOwn.never rfl (qi_any (q_at hr (qb_var 1) (QM.toB q_int))) (qg_name 8 (by decide) sc__law_near.nd rfl (by first | exact .inl rfl | exact .inr rfl)) (pmss_one (qs_if (QMW.t (qw_and (QMC.t (q_lt (qb_var 3) (QM.toB q_int))) (qw_and1 (QMW.t (qw_or (QMC.t (q_lt (qb_var 3) (QM.toB q_int))) (qw_or1 (QMC.t (q_eq hr (qb_var 8) (qb_var 7))))))))) (pmss_one (qs_setD 4 hr (q_min rfl (by rfl) (B _ (by decide)) (QM.toB (q_at hr (qb_var 1) (QM.toB q_int))) (QM.toB (q_max rfl (by rfl) (B _ (by decide)) (QM.toB q_int) (QM.toB (q_add (QM.toB (q_at hr (qb_var 4) (qb_var 8))) (qb_var 6)))))) (qb_var 8))) pmss_nil))) (pmss_cons (q_for PassesOwn.never rfl (qi_any (q_at hr (qb_var 1) (QM.toB q_int))) (qg_tup rfl (qgs_cons (qg_name 8 (by decide) sc__law_near.nd rfl (by first | exact .inl rfl | exact .inr rfl)) (qgs_cons (qg_name 9 (by decide) sc__law_near.nd rfl (by first | exact .inl rfl | exact .inr rfl)) qgs_nil)) (gs_len_cons (gs_len_cons gs_len_nil))) (pmss_one (qs_if (QMC.t (q_in hr (qb_var 3) (QM.toB (q_tup (qa_cons q_int (qa_cons q_int qa_nil)))))) (pmss_one (qs_setD 5 hr (q_min rfl (by rfl) (B _ (by decide)) (QM.toB (q_at hr (qb_var 1) (QM.toB q_int))) (QM.toB (q_max rfl (by rfl) (B _ (by decide)) (QM.toB (q_neg (QM.toB (q_at hr (qb_var 1) (QM.toB q_int))))) (QM.toB (q_sub (QM.toB (q_at hr (qb_var 5) (qb_var 8))) (qb_var 6)))))) (qb_var 8))) pmss_nil))) (pmss_frz 4 (os1 := [5]) (pmss_frz 5 (os1 := []) (pmss_one (qs_ret (q_tup (qa_cons (q_var 4) (qa_cons (q_var 5) qa_nil))))))))))))))

abbrev s__law_two_right : Stmt := topS 68
abbrev N__law_two_right : List Str := ["row", "ground", "elder", "newer", "due", "told", "some", "first", "second", "kept"]
theorem sc__law_two_right : FnScope N__law_two_right ["row", "ground", "elder", "newer"] (defScope s__law_two_right) := ⟨rfl, rfl, rfl, by decide +kernel, rfl, by decide +kernel, by decide +kernel⟩
theorem ok__law_two_right (B : Blt mg) (F : Df K mg "_law_two_right" s__law_two_right) (h__law_marks : Has P w K mg base 1 "_law_marks" 2 m__law_marks) (h_alike : Has P w K mg base 8 "alike" 3 m_alike) (h_parting : HasD (spN K mg) P w K mg base 7 "parting" 3 m_parting (.tup [])) (h__law_told : Has P w K mg base 2 "_law_told" 3 m__law_told) (hK_alike : HasK P w K mg base 8 "alike" 3 ["other", "one", "yard"] [2, 1, 0] m_alike) : HasG P w K mg base 9 "_law_two_right" 4 m__law_two_right :=
  hasG_of (k := 8) (os := []) (o2 := [6]) (ol := []) F sc__law_two_right rfl (fun _ _ _ _ _ _ us hl => match us, hl with | [_, _, _, _], _ => rfl) (by decide) fun f cdv A outer s H E hr hgd =>
    (pmss_cons (qs_set 4 (by decide) sc__law_two_right.nd rfl (by first | exact .inl rfl | exact .inr rfl) (QMC.e (q_eq hr (QM.toB (q_f h__law_marks (hr.mono (by decide)) (by rfl) (qa_cons (q_var 0) (qa_cons (q_var 2) qa_nil)))) (QM.toB (q_f h__law_marks (hr.mono (by decide)) (by rfl) (qa_cons (q_var 0) (qa_cons (q_var 3) qa_nil))))))) (pmss_cons (qs_set 5 (by decide) sc__law_two_right.nd rfl (by first | exact .inl rfl | exact .inr rfl) (QMF.toE (qf_lst (qa_cons (q_f h_alike (hr.mono (by decide)) (by rfl) (qa_cons (q_var 1) (qa_cons (q_var 2) (qa_cons (q_var 3) qa_nil)))) (qa_cons (q_f h_alike (hr.mono (by decide)) (by rfl) (qa_cons (q_var 1) (qa_cons (q_var 3) (qa_cons (q_var 2) qa_nil)))) (qa_cons (q_k hK_alike (hr.mono (by decide)) (by rfl) (qk_cons (q_var 3) (qk_cons (q_var 2) (qk_cons (q_var 1) qk_nil)))) qa_nil)))))) (pmss_cons (qs_if (QMC.t (q_ne hr (QM.toB (q_repr hr hgd (by rfl) (B _ (by decide)) (qb_var 5))) (QM.toB (q_repr hr hgd (by rfl) (B _ (by decide)) (QMF.toB (qf_mulL (QMF.toB (qf_lst (qa_cons (q_var 4) qa_nil))) (QM.toB q_int))))))) (pmss_one (qs_ret q_bl)) pmss_nil) (pmss_cons (qs_setO 6 (by decide) sc__law_two_right.nd rfl (by first | exact .inl rfl | exact .inr rfl) (pmf_fDq h_parting (hr.mono (by decide)) (by rfl) (qa_cons (q_var 1) (qa_cons (q_var 2) (qa_cons (q_var 3) qa_nil))))) (pmss_cons (qs_if (QMW.t (qw_or (QMC.t (q_isN (qb_var 6) (QM.toB q_non))) (qw_or1 (qt_val (q_var 4))))) (pmss_one (qs_ret (q_and (q_var 4) (q_one (QMC.e (q_isN (qb_var 6) (QM.toB q_non))))))) pmss_nil) (pmss_cons (qs_par2 7 8 rfl sc__law_two_right.nd rfl rfl (by decide) rfl rfl (QM.x (pm_fLq h__law_told (hr.mono (by decide)) (by rfl) (qal_cons (q_var 0) (qal_cons (q_var 2) (qal_own 6 qal_nil))))) (QM.x (pm_fLq h__law_told (hr.mono (by decide)) (by rfl) (qal_cons (q_var 0) (qal_cons (q_var 3) (qal_own 6 qal_nil))))) (by decide) (by decide) (by rfl)) (pmss_cons (qs_set 9 (by decide) sc__law_two_right.nd rfl (by first | exact .inl rfl | exact .inr rfl) (QMF.toE (qf_list (by rfl) (B _ (by decide)) (qb_var 6)))) (pmss_cons (pms_clrL 6) (pmss_cons (qs_if (QMC.t (q_ne hr (QMF.toB (pmf_fDq h_parting (hr.mono (by decide)) (by rfl) (qa_cons (q_var 1) (qa_cons (q_var 2) (qa_cons (q_var 3) qa_nil))))) (qb_var 9))) (pmss_one (qs_ret q_bl)) pmss_nil) (pmss_one (qs_ret (q_and (QMC.e (q_eq hr (QM.toB (q_sl (qb_var 7) qo_none (qo_some (QM.toB (q_neg (QM.toB q_int)))))) (QM.toB (q_sl (qb_var 8) qo_none (qo_some (QM.toB (q_neg (QM.toB q_int)))))))) (q_one (QMC.e (q_ne hr (QM.toB (q_at hr (qb_var 7) (QM.toB (q_neg (QM.toB q_int))))) (QM.toB (q_at hr (qb_var 8) (QM.toB (q_neg (QM.toB q_int))))))))))))))))))))

abbrev s_law : Stmt := topS 69
abbrev N_law : List Str := ["script", "state", "turn", "row", "ground", "first", "second", "third", "kept", "elder", "newer", "marks"]
theorem sc_law : FnScope N_law ["script"] (defScope s_law) := ⟨rfl, rfl, rfl, by decide +kernel, rfl, by decide +kernel, by decide +kernel⟩
theorem body_law (B : Blt mg) (h__law_row : Has P w K mg base 4 "_law_row" 5 m__law_row) (h__law_up : Has P w K mg base 1 "_law_up" 1 m__law_up) (h__law_world : Has P w K mg base 2 "_law_world" 2 m__law_world) (h__law_near : Has P w K mg base 3 "_law_near" 3 m__law_near) (h__law_turned : Has P w K mg base 2 "_law_turned" 2 m__law_turned) (h__law_two_right : HasG P w K mg base 9 "_law_two_right" 4 m__law_two_right) (h_alike : Has P w K mg base 8 "alike" 3 m_alike) (hI_Yard : HasI P w K mg base 5 "Yard" 2 ["most", "lean"] m_Yard_init) (f : Addr) (cdv : Value) (A : Around) (outer : List Env) (s : Shared) (H : Hp) (E : XK) (hr : Room 9 (A.deeper (envOfC "law" (defScope s_law) s.heap.objs.size f cdv))) (hgd : (A.deeper (envOfC "law" (defScope s_law) s.heap.objs.size f cdv)).guards = some []) :
    PMSs (cxOf CX0 P w K mg base N_law "law" (defScope s_law) f cdv A outer s H E).nox false [] [] [] ((defBody s_law).drop 1) b_law :=
  (pmss_cons (q_for PassesOwn.never rfl (qi_range1 (by rfl) (B _ (by decide)) (qa_cons (q_max rfl (by rfl) (B _ (by decide)) (QM.toB q_int) (QM.toB (q_min rfl (by rfl) (B _ (by decide)) (QM.toB q_int) (QM.toB (q_len (by rfl) (B _ (by decide)) (qb_var 0)))))) qa_nil) (h1 := aLen1)) (qg_name 2 (by decide) sc_law.nd rfl (by first | exact .inl rfl | exact .inr rfl)) (pmss_cons (qs_set 3 (by decide) sc_law.nd rfl (by first | exact .inl rfl | exact .inr rfl) (q_f h__law_up (hr.mono (by decide)) (by rfl) (qa_cons (q_f h__law_row (hr.mono (by decide)) (by rfl) (qa_cons (q_var 1) (qa_cons q_int (qa_cons q_int (qa_cons q_int (qa_cons q_int qa_nil)))))) qa_nil))) (pmss_cons (qs_par2 4 5 rfl sc_law.nd rfl rfl (by decide) rfl rfl (QM.x (q_mk hI_Yard (hr.mono (by decide)) (by rfl) (qa_cons (q_at hr (qb_var 3) (QM.toB q_int)) (qa_cons (q_at hr (qb_var 3) (QM.toB q_int)) qa_nil)) (qk_cons (q_at hr (qb_var 3) (QM.toB q_int)) (qk_cons (q_at hr (qb_var 3) (QM.toB q_int)) qk_nil)))) (QM.x (q_f h__law_world (hr.mono (by decide)) (by rfl) (qa_cons (q_var 1) (qa_cons (q_var 3) qa_nil)))) (by decide) (by decide) (by rfl)) (pmss_cons (qs_set 6 (by decide) sc_law.nd rfl (by first | exact .inl rfl | exact .inr rfl) (q_f h__law_turned (hr.mono (by decide)) (by rfl) (qa_cons (q_var 1) (qa_cons (q_f h__law_near (hr.mono (by decide)) (by rfl) (qa_cons (q_var 1) (qa_cons (q_var 3) (qa_cons (q_var 5) qa_nil)))) qa_nil)))) (pmss_cons (qs_set 7 (by decide) sc_law.nd rfl (by first | exact .inl rfl | exact .inr rfl) (q_f h__law_near (hr.mono (by decide)) (by rfl) (qa_cons (q_var 1) (qa_cons (q_var 3) (qa_cons (q_var 6) qa_nil))))) (pmss_cons (qs_set 8 (by decide) sc_law.nd rfl (by first | exact .inl rfl | exact .inr rfl) (q_repr hr hgd (by rfl) (B _ (by decide)) (QMF.toB (qf_lst (qa_cons (q_var 5) (qa_cons (q_var 6) (qa_cons (q_var 7) qa_nil))))))) (pmss_cons (q_for PassesOwn.never rfl (qi_any (QMF.toE (qf_lst (qa_cons (q_tup (qa_cons (q_var 5) (qa_cons (q_var 6) qa_nil))) (qa_cons (q_tup (qa_cons (q_var 6) (qa_cons (q_var 7) qa_nil))) (qa_cons (q_tup (qa_cons (q_var 5) (qa_cons (q_var 7) qa_nil))) (qa_cons (q_tup (qa_cons (q_var 5) (qa_cons (q_var 5) qa_nil))) qa_nil))))))) (qg_tup rfl (qgs_cons (qg_name 9 (by decide) sc_law.nd rfl (by first | exact .inl rfl | exact .inr rfl)) (qgs_cons (qg_name 10 (by decide) sc_law.nd rfl (by first | exact .inl rfl | exact .inr rfl)) qgs_nil)) (gs_len_cons (gs_len_cons gs_len_nil))) (pmss_one (qs_if (qt_not (qt_val (q_fG h__law_two_right (hr.mono (by decide)) hgd (by rfl) (qa_cons (q_var 3) (qa_cons (q_var 4) (qa_cons (q_var 9) (qa_cons (q_var 10) qa_nil))))))) (pmss_one (qs_ret q_bl)) pmss_nil))) (pmss_cons (qs_set 11 (by decide) sc_law.nd rfl (by first | exact .inl rfl | exact .inr rfl) (QMF.toE (qf_lst (qa_cons (q_f h_alike (hr.mono (by decide)) (by rfl) (qa_cons (q_var 4) (qa_cons (q_var 5) (qa_cons (q_var 6) qa_nil)))) (qa_cons (q_f h_alike (hr.mono (by decide)) (by rfl) (qa_cons (q_var 4) (qa_cons (q_var 6) (qa_cons (q_var 7) qa_nil)))) (qa_cons (q_f h_alike (hr.mono (by decide)) (by rfl) (qa_cons (q_var 4) (qa_cons (q_var 5) (qa_cons (q_var 7) qa_nil)))) qa_nil)))))) (pmss_one (qs_if (QMW.t (qw_or (QMC.t (q_eq hr (QM.toB (q_count (qb_var 11) (QM.toB q_bl))) (QM.toB q_int))) (qw_or1 (QMC.t (q_ne hr (QM.toB (q_repr hr hgd (by rfl) (B _ (by decide)) (QMF.toB (qf_lst (qa_cons (q_var 5) (qa_cons (q_var 6) (qa_cons (q_var 7) qa_nil))))))) (qb_var 8)))))) (pmss_one (qs_ret q_bl)) pmss_nil)))))))))) (pmss_one (qs_ret q_bl)))

end
abbrev s_begun : Stmt := topS 56
theorem sc_begun : FnScope ["script", "great", "cell"] ["script"] (defScope s_begun) := ⟨rfl, rfl, rfl, by decide +kernel, rfl, by decide +kernel, by decide +kernel⟩
section
variable {P : Program} {w : World} {K : PySem.W.Frag} {mg : Str → Option Value} {base : Heap}
theorem lc_ints {K : PySem.W.Frag} {tt : TT} {te : TE} {H1 : Hp} {a D : Addr} {ns : List Int} {Qd : Hp → Prop} {y0 y1 y2 : Option V} (f : Int → Bool) (h : Int → Int) (hS : SqL K H1 a (ns.map V.int)) (hlen : ns.length ≤ 1000) (hD : H1 D = none)
    (ht : ∀ c H Q, Q (f c) H → tt [y0, y1, some (.int c)] H Q) (he : ∀ c H Q, Q (.int (h c)) H → te [y0, y1, some (.int c)] H Q)
    (hd : ∀ H', (∀ b o, H1 b = some o → H' b = some o) → H' D = some (.lst (((ns.filter f).map h).map V.int)) → Qd H') :
    ∃ W : Nat → Nat → Hp → Prop, (∃ m, W 0 m (upd H1 D (.lst []))) ∧ ∀ i m H, W i m H →
      ((Itl K a).stop i H ∧ Qd H) ∨ ((Itl K a).go i H ∧ ∃ Nx : Hp → Prop, (∀ H', Nx H' → ∃ m', m' < m ∧ W (i + 1) m' H') ∧ ∀ x H', (Itl K a).yld i H x H' → gName 2 x (wipe [y0, y1, y2] [2]) H' fun σ2 H2 => wipe σ2 [2] = wipe [y0, y1, y2] [2] ∧ tt σ2 H2 fun b H3 =>
        if b = true then te σ2 H3 fun y H4 => ∃ acc, H4 D = some (.lst acc) ∧ acc.length < sizeLine ∧ Nx (upd H4 D (.lst (acc ++ [y]))) else Nx H3) := by
  have keep : ∀ {H' : Hp} {o : HO}, (∀ b o, H1 b = some o → H' b = some o) → ∀ b u, H1 b = some u → upd H' D o b = some u := fun {H' o} k b u e => by
    rw [upd_ne (ne_of_none e hD)]
    exact k b u e
  refine lc_list (fun i H' => (∀ b o, H1 b = some o → H' b = some o) ∧ H' D = some (.lst ((((ns.take i).filter f).map h).map V.int))) ⟨keep fun _ _ e => e, upd_same⟩ (fun i H' _ p => Le.l (fun b o e => p.1 b o e) hS) (fun i x H' hx p => ?_) fun H' p => hd H' p.1 (by rw [List.length_map, List.take_length] at p; exact p.2)
  obtain ⟨p1, p2⟩ := p
  rw [List.getElem?_map] at hx
  cases hc : ns[i]? with
  | none => rw [hc] at hx; cases hx
  | some c =>
    rw [hc] at hx
    cases hx
    have tk : ns.take (i + 1) = ns.take i ++ [c] := by
      rw [List.take_add_one, hc]; rfl
    refine ⟨rfl, ht c H' _ ?_⟩
    cases hf : f c with
    | true =>
      rw [if_pos rfl]
      refine he c H' _ ⟨_, p2, ?_, keep p1, ?_⟩
      · rw [List.length_map, List.length_map]
        exact Nat.lt_of_le_of_lt (List.length_filter_le _ _) (small1000 (by rw [List.length_take]; omega))
      · rw [upd_same, tk, List.filter_append]
        simp [hf]
    | false =>
      rw [if_neg Bool.false_ne_true]
      refine ⟨p1, ?_⟩
      rw [p2, tk, List.filter_append]
      simp [hf]
theorem ok_begun {f : Addr} {fd : FuncData} (F : Fun K "_law_begun" "_law_begun" s_begun f fd) (B : Blt mg) : FnOk P w K mg base CX0 1 f fd ["script"] (spBegun K) := by
  refine F.ok sc_begun (fun vs H Q E h => ?_) fun cdv A outer s H vs Q E hr h => ?_
  · obtain ⟨a, ns, e, _⟩ := h
    subst e
    rfl
  · obtain ⟨a, ns, e, hS, hlen, k⟩ := h
    subst e
    refine ⟨_, pss_cons (ps_setLc (i := 1) (own := [("cell", 2)]) rfl sc_begun.nd rfl rfl (by rfl) (pi_list (pv 0)) (blk_of (by kernel_rfl)) (fun s H C cl fp => pg_name (i := 2) sc_begun.nd rfl (.inl rfl))
        (fun s H C cl fp => pts_one (pt_cmpR op_ge (pe_callB call_abs (by rfl) (B _ (by decide)) boot_abs (pa_cons (pv 2) pa_nil)) (pe_op op_pow pe_int pe_int) (nomark _)))
        (fun s H C cl fp => pe_op op_fdivW (pe_callB call_abs (by rfl) (B _ (by decide)) boot_abs (pa_cons (pv 2) pa_nil)) (pe_op op_pow pe_int pe_int)))
      (pss_one (ps_ret (pe_disp (pps_cons pe_str pe_int (pps_cons pe_str (pv 1) (pps_cons pe_str (pe_lc (own := [("cell", 2)]) rfl sc_begun.nd (pi_list (pv 0)) (blk_of (by kernel_rfl)) (fun s H C cl fp => pg_name (i := 2) sc_begun.nd rfl (.inl rfl)) (fun s H C cl fp => pts_nil)
        (fun s H C cl fp => pe_op op_mod (pe_callB call_abs (by rfl) (B _ (by decide)) boot_abs (pa_cons (pv 2) pa_nil)) (pe_op op_pow pe_int pe_int))) (pps_cons pe_str pe_int pps_nil)))) rfl rfl (fun z => nomatch z) (by decide)))), ?_⟩
    have pw : CPow 10 18 := ⟨by decide, by decide, by decide⟩
    refine ⟨_, rfl, a, rfl, ⟨_, hS⟩, fun g hg => lc_ints (y0 := some (.ref a)) (y1 := none) (y2 := none) (fun c => decide ((10 : Int) ^ 18 ≤ absI c)) (fun c => absI c / 10 ^ 18) hS hlen hg (fun c H Q q => ⟨_, rfl, c, rfl, 10, 18, rfl, rfl, pw, absI c, 10 ^ 18, rfl, rfl, _, rfl, q⟩)
      (fun c H Q q => ⟨_, rfl, c, rfl, 10, 18, rfl, rfl, pw, absI c, 10 ^ 18, rfl, rfl, ⟨by decide, by decide⟩, q⟩) fun H1 k1 g1 => ?_⟩
    intro p hp
    have np : ∀ b o, H1 b = some o → upd H1 p (.dK []) b = some o := fun b o e => by rw [upd_ne (ne_of_none e hp)]; exact e
    refine ⟨_, rfl, _, rfl, a, rfl, ⟨_, Le.l (fun b o e => np b o (k1 b o e)) hS⟩, fun c hc => lc_ints (y0 := some (.ref a)) (y1 := some (.ref g)) (y2 := none) (fun _ => true) (fun c => absI c % 10 ^ 18) (Le.l (fun b o e => np b o (k1 b o e)) hS) hlen hc (fun c H Q q => q)
      (fun c H Q q => ⟨_, rfl, c, rfl, 10, 18, rfl, rfl, pw, absI c, 10 ^ 18, rfl, rfl, (show (0 : Int) < 10 ^ 18 by decide), q⟩) fun H2 k2 c2 => ?_⟩
    have gp : g ≠ p := ne_of_none g1 hp
    have pc : p ≠ c := ne_of_none (H := upd H1 p (.dK [])) upd_same hc
    have gc : g ≠ c := ne_of_none (np _ _ g1) hc
    have h2p : H2 p = some (.dK []) := k2 p _ upd_same
    have me : mergeK [] (stK ⟨p, g, c, fun _ => none⟩ (begunD ns)) = stK ⟨p, g, c, fun _ => none⟩ (begunD ns) := by kernel_rfl
    refine ⟨h2p, stK ⟨p, g, c, fun _ => none⟩ (begunD ns), rfl, (show 4 ≤ 15 by decide), ?_⟩
    rw [me]
    have st : StR ⟨p, g, c, fun _ => none⟩ (upd H2 p (.dK (stK ⟨p, g, c, fun _ => none⟩ (begunD ns)))) (begunD ns) := {
      s := upd_same
      g := by
        show upd H2 p _ g = _
        rw [upd_ne gp]
        exact k2 g _ (np _ _ g1)
      c := by
        show upd H2 p _ c = _
        rw [upd_ne (Ne.symm pc), c2, List.filter_eq_self.mpr fun _ _ => rfl]
        rfl
      gc := gc
      l := fun b vs e => nomatch e }
    have none_of : ∀ b, H1 b = none → H b = none := fun b hb => by
      cases q : H b with
      | none => rfl
      | some o => rw [k1 b o q] at hb; cases hb
    have hc1 : H1 c = none := by
      rw [upd_ne (Ne.symm pc)] at hc
      exact hc
    refine k ⟨p, g, c, fun _ => none⟩ _ st (fun b o e => ?_) (none_of p hp) hg (none_of c hc1) fun _ => rfl
    · have e1 := k1 b o e
      rw [upd_ne (ne_of_none e1 hp)]
      exact k2 b o (np b o e1)
end

end K3
end
section
set_option Elab.async false
set_option linter.all false
set_option maxRecDepth 100000
set_option maxHeartbeats 1000000
namespace K3
open PySem PySem.Spec PyProof.Rows L2 Mir Cm
section
variable {P : Program} {w : World} {K : PySem.W.Frag} {mg : Str → Option Value} {base : Heap}
structure Top (K : PySem.W.Frag) (mg : Str → Option Value) : Prop where
  B : Blt mg
  d__law_begun : Df K mg "_law_begun" s_begun
  d_is_name : Df K mg "is_name" s_is_name
  g_SMALL : GD K mg "SMALL" (.str "abcdefghijklmnopqrstuvwxyz")
  g_LONGEST : GD K mg "LONGEST" (.int 8)
  d_is_whole : Df K mg "is_whole" s_is_whole
  d_is_from : Df K mg "is_from" s_is_from
  d_are_names : Df K mg "are_names" s_are_names
  d_is_beam : Df K mg "is_beam" s_is_beam
  g_MOST_STEP : GD K mg "MOST_STEP" (.int 5)
  d_are_beams : Df K mg "are_beams" s_are_beams
  g_MOST_BEAMS : GD K mg "MOST_BEAMS" (.int 3)
  d_tuples_of : Df K mg "tuples_of" s_tuples_of
  d_Yard_init : DfI K mg "Yard" "Yard.__init__" s_Yard_init
  g_MOST_THINGS : GD K mg "MOST_THINGS" (.int 8)
  g_MOST_LEAN : GD K mg "MOST_LEAN" (.int 9)
  g_MOST_WEIGHT : GD K mg "MOST_WEIGHT" (.int 100)
  g_MOST_TUPLES : GD K mg "MOST_TUPLES" (.int 400)
  f_Yard_thing_names : HasF K mg "Yard" "thing_names"
  f_Yard_beam_steps : HasF K mg "Yard" "beam_steps"
  f_Yard_heaviest : HasF K mg "Yard" "heaviest"
  f_Yard_farthest : HasF K mg "Yard" "farthest"
  d_Yard_things : DfM K mg "Yard" "things" "Yard.things" s_Yard_things
  d_Yard_beams : DfM K mg "Yard" "beams" "Yard.beams" s_Yard_beams
  d_Yard_most : DfM K mg "Yard" "most" "Yard.most" s_Yard_most
  d_Yard_lean : DfM K mg "Yard" "lean" "Yard.lean" s_Yard_lean
  d_need_beam : Df K mg "need_beam" s_need_beam
  d_Yard_step : DfM K mg "Yard" "step" "Yard.step" s_Yard_step
  d_need_pan : Df K mg "need_pan" s_need_pan
  d_are_parts : Df K mg "are_parts" s_are_parts
  d_is_row : Df K mg "is_row" s_is_row
  g_WORDS : GD K mg "WORDS" (.tup [(.str "left"), (.str "even"), (.str "right")])
  d_need_log : Df K mg "need_log" s_need_log
  d_word_of : Df K mg "word_of" s_word_of
  g_EVEN : GD K mg "EVEN" (.str "even")
  g_LEFT : GD K mg "LEFT" (.str "left")
  g_RIGHT : GD K mg "RIGHT" (.str "right")
  d_tired : Df K mg "tired" s_tired
  d_shifts : Df K mg "shifts" s_shifts
  d_is_dict_of : Df K mg "is_dict_of" s_is_dict_of
  d_is_pair : Df K mg "is_pair" s_is_pair
  d_need_world : Df K mg "need_world" s_need_world
  d_weight : Df K mg "weight" s_weight
  d_told_words : Df K mg "told_words" s_told_words
  d_is_world : Df K mg "is_world" s_is_world
  d_pans : Df K mg "pans" s_pans
  d_weighings_at : Df K mg "weighings_at" s_weighings_at
  d_need_steps : Df K mg "need_steps" s_need_steps
  d_total_at : Df K mg "total_at" s_total_at
  d_parting_at : Df K mg "parting_at" s_parting_at
  d_parting : DfKw K mg "parting" s_parting "log" (.tup [])
  d_alike : Df K mg "alike" s_alike
  d__law_next : Df K mg "_law_next" s__law_next
  d__law_pick : Df K mg "_law_pick" s__law_pick
  d__law_names : Df K mg "_law_names" s__law_names
  d__law_row : Df K mg "_law_row" s__law_row
  d__law_world : Df K mg "_law_world" s__law_world
  d__law_sign : Df K mg "_law_sign" s__law_sign
  d__law_told : Df K mg "_law_told" s__law_told
  d__law_up : Df K mg "_law_up" s__law_up
  d__law_marks : Df K mg "_law_marks" s__law_marks
  d__law_turned : Df K mg "_law_turned" s__law_turned
  d__law_near : Df K mg "_law_near" s__law_near
  d__law_two_right : Df K mg "_law_two_right" s__law_two_right
theorem all_law (T : Top K mg) (f : Addr) (cdv : Value) (A : Around) (outer : List Env) (s : Shared) (H : Hp) (E : XK) (hr : Room 9 (A.deeper (envOfC "law" (defScope s_law) s.heap.objs.size f cdv))) (hgd : (A.deeper (envOfC "law" (defScope s_law) s.heap.objs.size f cdv)).guards = some []) :
    PMSs (cxOf CX0 P w K mg base N_law "law" (defScope s_law) f cdv A outer s H E).nox false [] [] [] ((defBody s_law).drop 1) b_law := by
  have h_is_name := ok_is_name (P := P) (w := w) (base := base) T.B T.d_is_name T.g_SMALL T.g_LONGEST
  have h_is_whole := ok_is_whole (P := P) (w := w) (base := base) T.B T.d_is_whole
  have h_is_from := ok_is_from (P := P) (w := w) (base := base) T.B T.d_is_from h_is_whole
  have h_are_names := ok_are_names (P := P) (w := w) (base := base) T.B T.d_are_names h_is_name
  have h_is_beam := ok_is_beam (P := P) (w := w) (base := base) T.B T.d_is_beam T.g_MOST_STEP h_is_name h_is_from
  have h_are_beams := ok_are_beams (P := P) (w := w) (base := base) T.B T.d_are_beams T.g_MOST_BEAMS h_is_beam h_are_names
  have h_tuples_of := ok_tuples_of (P := P) (w := w) (base := base) T.B T.d_tuples_of
  have hI_Yard := ok_Yard_init (P := P) (w := w) (base := base) T.B T.d_Yard_init T.g_MOST_THINGS T.g_MOST_LEAN T.g_MOST_WEIGHT T.g_MOST_TUPLES T.f_Yard_thing_names T.f_Yard_beam_steps T.f_Yard_heaviest T.f_Yard_farthest h_are_beams h_are_names h_is_from h_tuples_of
  have h_Yard_things := ok_Yard_things (P := P) (w := w) (base := base) T.B T.d_Yard_things T.f_Yard_thing_names
  have h_Yard_beams := ok_Yard_beams (P := P) (w := w) (base := base) T.B T.d_Yard_beams T.f_Yard_beam_steps
  have h_Yard_most := ok_Yard_most (P := P) (w := w) (base := base) T.B T.d_Yard_most T.f_Yard_heaviest
  have h_Yard_lean := ok_Yard_lean (P := P) (w := w) (base := base) T.B T.d_Yard_lean T.f_Yard_farthest
  have h_need_beam := ok_need_beam (P := P) (w := w) (base := base) T.B T.d_need_beam h_Yard_beams
  have h_Yard_step := ok_Yard_step (P := P) (w := w) (base := base) T.B T.d_Yard_step T.f_Yard_beam_steps h_need_beam
  have h_need_pan := ok_need_pan (P := P) (w := w) (base := base) T.B T.d_need_pan h_Yard_things
  have h_are_parts := ok_are_parts (P := P) (w := w) (base := base) T.B T.d_are_parts h_need_beam h_need_pan
  have h_is_row := ok_is_row (P := P) (w := w) (base := base) T.B T.d_is_row T.g_WORDS h_are_parts
  have h_need_log := ok_need_log (P := P) (w := w) (base := base) T.B T.d_need_log h_is_row
  have h_word_of := ok_word_of (P := P) (w := w) (base := base) T.B T.d_word_of T.g_EVEN T.g_LEFT T.g_RIGHT
  have h_tired := ok_tired (P := P) (w := w) (base := base) T.B T.d_tired T.g_RIGHT T.g_EVEN T.g_LEFT
  have h_shifts := ok_shifts (P := P) (w := w) (base := base) T.B T.d_shifts h_Yard_beams h_need_log h_tired
  have h_is_dict_of := ok_is_dict_of (P := P) (w := w) (base := base) T.B T.d_is_dict_of h_is_from
  have h_is_pair := ok_is_pair (P := P) (w := w) (base := base) T.B T.d_is_pair h_Yard_most h_Yard_things h_Yard_lean h_Yard_beams h_is_dict_of
  have h_need_world := ok_need_world (P := P) (w := w) (base := base) T.B T.d_need_world h_is_pair
  have h_weight := ok_weight (P := P) (w := w) (base := base) T.B T.d_weight
  have h_told_words := ok_told_words (P := P) (w := w) (base := base) T.B T.d_told_words h_Yard_beams h_weight h_word_of h_tired
  have h_is_world := ok_is_world (P := P) (w := w) (base := base) T.B T.d_is_world h_need_log h_told_words h_is_pair
  have h_pans := ok_pans (P := P) (w := w) (base := base) T.B T.d_pans h_Yard_things
  have h_weighings_at := ok_weighings_at (P := P) (w := w) (base := base) T.B T.d_weighings_at h_pans
  have h_need_steps := ok_need_steps (P := P) (w := w) (base := base) T.B T.d_need_steps h_Yard_beams
  have h_total_at := ok_total_at (P := P) (w := w) (base := base) T.B T.d_total_at h_weight
  have h_parting_at := ok_parting_at (P := P) (w := w) (base := base) T.B T.d_parting_at h_Yard_step h_weighings_at h_total_at h_word_of h_tired
  have h_parting := ok_parting (P := P) (w := w) (base := base) T.B T.d_parting h_Yard_beams h_need_steps h_need_world h_is_world h_shifts h_parting_at
  have h_alike := ok_alike (P := P) (w := w) (base := base) T.B T.d_alike h_parting
  have hK_alike := okK_alike (P := P) (w := w) (base := base) T.B T.d_alike h_parting
  have h__law_next := ok__law_next (P := P) (w := w) (base := base) T.B T.d__law_next
  have h__law_pick := ok__law_pick (P := P) (w := w) (base := base) T.B T.d__law_pick h__law_next
  have h__law_names := ok__law_names (P := P) (w := w) (base := base) T.B T.d__law_names h__law_next h__law_pick
  have h__law_row := ok__law_row (P := P) (w := w) (base := base) T.B T.d__law_row h__law_next h__law_names h__law_pick
  have h__law_world := ok__law_world (P := P) (w := w) (base := base) T.B T.d__law_world h__law_next
  have h__law_sign := ok__law_sign (P := P) (w := w) (base := base) T.B T.d__law_sign
  have h__law_told := ok__law_told (P := P) (w := w) (base := base) T.B T.d__law_told h__law_sign
  have h__law_up := ok__law_up (P := P) (w := w) (base := base) T.B T.d__law_up
  have h__law_marks := ok__law_marks (P := P) (w := w) (base := base) T.B T.d__law_marks
  have h__law_turned := ok__law_turned (P := P) (w := w) (base := base) T.B T.d__law_turned h__law_next
  have h__law_near := ok__law_near (P := P) (w := w) (base := base) T.B T.d__law_near h__law_next h__law_world h__law_pick
  have h__law_two_right := ok__law_two_right (P := P) (w := w) (base := base) T.B T.d__law_two_right h__law_marks h_alike h_parting h__law_told hK_alike
  exact body_law T.B h__law_row h__law_up h__law_world h__law_near h__law_turned h__law_two_right h_alike hI_Yard f cdv A outer s H E hr hgd
/-- the law's mirror answers True -/
def Math : Prop := ∀ ns : List Int, ns.length ≤ 63 → Wp (b_law (some (D.ro (ns.map D.int)) :: some .st :: List.replicate (N_law.length - 2) none) (begunD ns)) fun c _ => c = .ret (.bl true)
def spLaw3 (K : PySem.W.Frag) : Sp := fun vs H Q _ => ∃ (a : Addr) (ns : List Int), vs = [.ref a] ∧ SqL K H a (ns.map V.int) ∧ ns.length ≤ 63 ∧ ∀ H', Q (.bl true) H'
theorem ok_law (T : Top K mg) (M : Math) {f : Addr} {fd : FuncData} (F : Fun K "law" "law" s_law f fd) : FnG P w K mg base 10 f fd ["script"] (spLaw3 K) := by
  obtain ⟨fB, fdB, FB, mB⟩ := T.d__law_begun
  have hB : FnOk P w K mg base CX0 1 fB fdB ["script"] (spBegun K) := ok_begun FB T.B
  have bB : Binds K fdB ["script"] [] := FB.binds fun _ _ _ _ _ _ us hl => match us, hl with | [_], _ => rfl
  obtain ⟨oc, od, kV, doc, pm, an, cdv, ct, osl, efd, lk, hcd⟩ := F.ex
  subst efd
  refine fnG_of lk hcd sc_law (fun vs H Q E h => ?_) fun A outer s H vs Q E hr hgd h => ?_
  · obtain ⟨a, ns, e, _⟩ := h
    rw [e] <;> rfl
  · obtain ⟨a, ns, e, hS, hlen, k⟩ := h
    subst e
    obtain ⟨ts, p, sm⟩ := all_law (P := P) (w := w) (base := base) T f cdv A outer s H E hr hgd
    refine ⟨_, PSs.nox (pss_cons (ps_set (i := 1) sc_law.nd rfl (by first | exact .inl rfl | exact .inr rfl) (pe_call hB (hr.mono (by decide)) (by rfl) mB FB.kp bB .nil pass0 (pa_cons (pv 0) pa_nil))) p), ?_⟩
    refine ⟨_, rfl, a, ns, rfl, hS, Nat.le_trans hlen (by decide), fun S H' st keep n1 n2 n3 n4 => ?_⟩
    refine sm ⟨S, gOf H a, H'⟩ (gOf H a) _ H' _ (begunD ns) _ (IM.law _ hS st keep n1 n2 n3 n4) ((M ns hlen).imp fun c d e => ?_)
    subst e
    intro v H2 G2 A2 r
    cases r
    exact k H2
end
end K3
end
section
set_option Elab.async false
set_option linter.all false
set_option maxRecDepth 100000
set_option maxHeartbeats 400000
theorem K3.math : K3.Math := fun ns _ => Cm.law_math ns
end
section
set_option Elab.async false
set_option linter.all false
set_option maxRecDepth 100000
set_option maxHeartbeats 1000000
namespace K3
open PySem PySem.Spec PyProof.Rows L2 Mir Cm
theorem head_mk {l : PySem.W.OpenLaw} {w : World} {K : PySem.W.Frag} {h : Heap} {mg : Str → Option Value} {fa : Addr} (M : Math) (X : K.In h) (G : h.Ns mainGlobals mg) (hfa : mg "law" = some (.ref fa))
    {f__law_begun : Addr} {od__law_begun an__law_begun : Option Addr} {sl__law_begun : Array (Option Value)} {oc__law_begun kV__law_begun dc__law_begun pm__law_begun cd__law_begun ct__law_begun : Value} {f_is_name : Addr} {od_is_name an_is_name : Option Addr} {sl_is_name : Array (Option Value)} {oc_is_name kV_is_name dc_is_name pm_is_name cd_is_name ct_is_name : Value} {t_SMALL : Tok} {t_LONGEST : Tok} {f_is_whole : Addr} {od_is_whole an_is_whole : Option Addr} {sl_is_whole : Array (Option Value)} {oc_is_whole kV_is_whole dc_is_whole pm_is_whole cd_is_whole ct_is_whole : Value} {f_is_from : Addr} {od_is_from an_is_from : Option Addr} {sl_is_from : Array (Option Value)} {oc_is_from kV_is_from dc_is_from pm_is_from cd_is_from ct_is_from : Value} {f_are_names : Addr} {od_are_names an_are_names : Option Addr} {sl_are_names : Array (Option Value)} {oc_are_names kV_are_names dc_are_names pm_are_names cd_are_names ct_are_names : Value} {f_is_beam : Addr} {od_is_beam an_is_beam : Option Addr} {sl_is_beam : Array (Option Value)} {oc_is_beam kV_is_beam dc_is_beam pm_is_beam cd_is_beam ct_is_beam : Value} {t_MOST_STEP : Tok} {f_are_beams : Addr} {od_are_beams an_are_beams : Option Addr} {sl_are_beams : Array (Option Value)} {oc_are_beams kV_are_beams dc_are_beams pm_are_beams cd_are_beams ct_are_beams : Value} {t_MOST_BEAMS : Tok} {f_tuples_of : Addr} {od_tuples_of an_tuples_of : Option Addr} {sl_tuples_of : Array (Option Value)} {oc_tuples_of kV_tuples_of dc_tuples_of pm_tuples_of cd_tuples_of ct_tuples_of : Value} {C_Yard : Addr} {f_Yard_init : Addr} {od_Yard_init an_Yard_init : Option Addr} {sl_Yard_init : Array (Option Value)} {oc_Yard_init kV_Yard_init dc_Yard_init pm_Yard_init cd_Yard_init ct_Yard_init : Value} {t_MOST_THINGS : Tok} {t_MOST_LEAN : Tok} {t_MOST_WEIGHT : Tok} {t_MOST_TUPLES : Tok} {f_Yard_things : Addr} {od_Yard_things an_Yard_things : Option Addr} {sl_Yard_things : Array (Option Value)} {oc_Yard_things kV_Yard_things dc_Yard_things pm_Yard_things cd_Yard_things ct_Yard_things : Value} {f_Yard_beams : Addr} {od_Yard_beams an_Yard_beams : Option Addr} {sl_Yard_beams : Array (Option Value)} {oc_Yard_beams kV_Yard_beams dc_Yard_beams pm_Yard_beams cd_Yard_beams ct_Yard_beams : Value} {f_Yard_most : Addr} {od_Yard_most an_Yard_most : Option Addr} {sl_Yard_most : Array (Option Value)} {oc_Yard_most kV_Yard_most dc_Yard_most pm_Yard_most cd_Yard_most ct_Yard_most : Value} {f_Yard_lean : Addr} {od_Yard_lean an_Yard_lean : Option Addr} {sl_Yard_lean : Array (Option Value)} {oc_Yard_lean kV_Yard_lean dc_Yard_lean pm_Yard_lean cd_Yard_lean ct_Yard_lean : Value} {f_need_beam : Addr} {od_need_beam an_need_beam : Option Addr} {sl_need_beam : Array (Option Value)} {oc_need_beam kV_need_beam dc_need_beam pm_need_beam cd_need_beam ct_need_beam : Value} {f_Yard_step : Addr} {od_Yard_step an_Yard_step : Option Addr} {sl_Yard_step : Array (Option Value)} {oc_Yard_step kV_Yard_step dc_Yard_step pm_Yard_step cd_Yard_step ct_Yard_step : Value} {f_need_pan : Addr} {od_need_pan an_need_pan : Option Addr} {sl_need_pan : Array (Option Value)} {oc_need_pan kV_need_pan dc_need_pan pm_need_pan cd_need_pan ct_need_pan : Value} {f_are_parts : Addr} {od_are_parts an_are_parts : Option Addr} {sl_are_parts : Array (Option Value)} {oc_are_parts kV_are_parts dc_are_parts pm_are_parts cd_are_parts ct_are_parts : Value} {f_is_row : Addr} {od_is_row an_is_row : Option Addr} {sl_is_row : Array (Option Value)} {oc_is_row kV_is_row dc_is_row pm_is_row cd_is_row ct_is_row : Value} {g_WORDS : Addr} {od_WORDS : Option Addr} {nn_WORDS : Nat} {sl_WORDS : Array (Option Value)} {t_WORDS0 t_WORDS1 t_WORDS2 : Tok} {f_need_log : Addr} {od_need_log an_need_log : Option Addr} {sl_need_log : Array (Option Value)} {oc_need_log kV_need_log dc_need_log pm_need_log cd_need_log ct_need_log : Value} {f_word_of : Addr} {od_word_of an_word_of : Option Addr} {sl_word_of : Array (Option Value)} {oc_word_of kV_word_of dc_word_of pm_word_of cd_word_of ct_word_of : Value} {t_EVEN : Tok} {t_LEFT : Tok} {t_RIGHT : Tok} {f_tired : Addr} {od_tired an_tired : Option Addr} {sl_tired : Array (Option Value)} {oc_tired kV_tired dc_tired pm_tired cd_tired ct_tired : Value} {f_shifts : Addr} {od_shifts an_shifts : Option Addr} {sl_shifts : Array (Option Value)} {oc_shifts kV_shifts dc_shifts pm_shifts cd_shifts ct_shifts : Value} {f_is_dict_of : Addr} {od_is_dict_of an_is_dict_of : Option Addr} {sl_is_dict_of : Array (Option Value)} {oc_is_dict_of kV_is_dict_of dc_is_dict_of pm_is_dict_of cd_is_dict_of ct_is_dict_of : Value} {f_is_pair : Addr} {od_is_pair an_is_pair : Option Addr} {sl_is_pair : Array (Option Value)} {oc_is_pair kV_is_pair dc_is_pair pm_is_pair cd_is_pair ct_is_pair : Value} {f_need_world : Addr} {od_need_world an_need_world : Option Addr} {sl_need_world : Array (Option Value)} {oc_need_world kV_need_world dc_need_world pm_need_world cd_need_world ct_need_world : Value} {f_weight : Addr} {od_weight an_weight : Option Addr} {sl_weight : Array (Option Value)} {oc_weight kV_weight dc_weight pm_weight cd_weight ct_weight : Value} {f_told_words : Addr} {od_told_words an_told_words : Option Addr} {sl_told_words : Array (Option Value)} {oc_told_words kV_told_words dc_told_words pm_told_words cd_told_words ct_told_words : Value} {f_is_world : Addr} {od_is_world an_is_world : Option Addr} {sl_is_world : Array (Option Value)} {oc_is_world kV_is_world dc_is_world pm_is_world cd_is_world ct_is_world : Value} {f_pans : Addr} {od_pans an_pans : Option Addr} {sl_pans : Array (Option Value)} {oc_pans kV_pans dc_pans pm_pans cd_pans ct_pans : Value} {f_weighings_at : Addr} {od_weighings_at an_weighings_at : Option Addr} {sl_weighings_at : Array (Option Value)} {oc_weighings_at kV_weighings_at dc_weighings_at pm_weighings_at cd_weighings_at ct_weighings_at : Value} {f_need_steps : Addr} {od_need_steps an_need_steps : Option Addr} {sl_need_steps : Array (Option Value)} {oc_need_steps kV_need_steps dc_need_steps pm_need_steps cd_need_steps ct_need_steps : Value} {f_total_at : Addr} {od_total_at an_total_at : Option Addr} {sl_total_at : Array (Option Value)} {oc_total_at kV_total_at dc_total_at pm_total_at cd_total_at ct_total_at : Value} {f_parting_at : Addr} {od_parting_at an_parting_at : Option Addr} {sl_parting_at : Array (Option Value)} {oc_parting_at kV_parting_at dc_parting_at pm_parting_at cd_parting_at ct_parting_at : Value} {f_parting kd_parting et_parting : Addr} {od_parting an_parting oe_parting : Option Addr} {sl_parting se_parting : Array (Option Value)} {ne_parting : Nat} {oc_parting dc_parting pm_parting cd_parting ct_parting : Value} {f_alike : Addr} {od_alike an_alike : Option Addr} {sl_alike : Array (Option Value)} {oc_alike kV_alike dc_alike pm_alike cd_alike ct_alike : Value} {f__law_next : Addr} {od__law_next an__law_next : Option Addr} {sl__law_next : Array (Option Value)} {oc__law_next kV__law_next dc__law_next pm__law_next cd__law_next ct__law_next : Value} {f__law_pick : Addr} {od__law_pick an__law_pick : Option Addr} {sl__law_pick : Array (Option Value)} {oc__law_pick kV__law_pick dc__law_pick pm__law_pick cd__law_pick ct__law_pick : Value} {f__law_names : Addr} {od__law_names an__law_names : Option Addr} {sl__law_names : Array (Option Value)} {oc__law_names kV__law_names dc__law_names pm__law_names cd__law_names ct__law_names : Value} {f__law_row : Addr} {od__law_row an__law_row : Option Addr} {sl__law_row : Array (Option Value)} {oc__law_row kV__law_row dc__law_row pm__law_row cd__law_row ct__law_row : Value} {f__law_world : Addr} {od__law_world an__law_world : Option Addr} {sl__law_world : Array (Option Value)} {oc__law_world kV__law_world dc__law_world pm__law_world cd__law_world ct__law_world : Value} {f__law_sign : Addr} {od__law_sign an__law_sign : Option Addr} {sl__law_sign : Array (Option Value)} {oc__law_sign kV__law_sign dc__law_sign pm__law_sign cd__law_sign ct__law_sign : Value} {f__law_told : Addr} {od__law_told an__law_told : Option Addr} {sl__law_told : Array (Option Value)} {oc__law_told kV__law_told dc__law_told pm__law_told cd__law_told ct__law_told : Value} {f__law_up : Addr} {od__law_up an__law_up : Option Addr} {sl__law_up : Array (Option Value)} {oc__law_up kV__law_up dc__law_up pm__law_up cd__law_up ct__law_up : Value} {f__law_marks : Addr} {od__law_marks an__law_marks : Option Addr} {sl__law_marks : Array (Option Value)} {oc__law_marks kV__law_marks dc__law_marks pm__law_marks cd__law_marks ct__law_marks : Value} {f__law_turned : Addr} {od__law_turned an__law_turned : Option Addr} {sl__law_turned : Array (Option Value)} {oc__law_turned kV__law_turned dc__law_turned pm__law_turned cd__law_turned ct__law_turned : Value} {f__law_near : Addr} {od__law_near an__law_near : Option Addr} {sl__law_near : Array (Option Value)} {oc__law_near kV__law_near dc__law_near pm__law_near cd__law_near ct__law_near : Value} {f__law_two_right : Addr} {od__law_two_right an__law_two_right : Option Addr} {sl__law_two_right : Array (Option Value)} {oc__law_two_right kV__law_two_right dc__law_two_right pm__law_two_right cd__law_two_right ct__law_two_right : Value} {f_law : Addr} {od_law an_law : Option Addr} {sl_law : Array (Option Value)} {oc_law kV_law dc_law pm_law cd_law ct_law : Value}
    (z_abs : PySem.W.nsIn K mainGlobals "abs" = some none)
    (z_all : PySem.W.nsIn K mainGlobals "all" = some none)
    (z_dict : PySem.W.nsIn K mainGlobals "dict" = some none)
    (z_enumerate : PySem.W.nsIn K mainGlobals "enumerate" = some none)
    (z_int : PySem.W.nsIn K mainGlobals "int" = some none)
    (z_isinstance : PySem.W.nsIn K mainGlobals "isinstance" = some none)
    (z_len : PySem.W.nsIn K mainGlobals "len" = some none)
    (z_list : PySem.W.nsIn K mainGlobals "list" = some none)
    (z_max : PySem.W.nsIn K mainGlobals "max" = some none)
    (z_min : PySem.W.nsIn K mainGlobals "min" = some none)
    (z_range : PySem.W.nsIn K mainGlobals "range" = some none)
    (z_repr : PySem.W.nsIn K mainGlobals "repr" = some none)
    (z_sum : PySem.W.nsIn K mainGlobals "sum" = some none)
    (z_tuple : PySem.W.nsIn K mainGlobals "tuple" = some none)
    (z_zip : PySem.W.nsIn K mainGlobals "zip" = some none)
    (z_bool : PySem.W.nsIn K mainGlobals "bool" = some none)
    (z_str : PySem.W.nsIn K mainGlobals "str" = some none)
    (a__law_begun : PySem.W.nsIn K mainGlobals "_law_begun" = some (some (.ref f__law_begun)))
    (l__law_begun : K.lookup f__law_begun = some ⟨oc__law_begun, od__law_begun, .func (PySem.W.fnOf "_law_begun" "_law_begun" (defArgs s_begun) (defBody s_begun) (defScope s_begun) .none kV__law_begun dc__law_begun pm__law_begun an__law_begun cd__law_begun ct__law_begun), sl__law_begun⟩)
    (c__law_begun : PySem.W.codeIn K cd__law_begun "_law_begun" = true)
    (k__law_begun : PySem.W.keepIn K (.ref f__law_begun) = true)
    (a_is_name : PySem.W.nsIn K mainGlobals "is_name" = some (some (.ref f_is_name)))
    (l_is_name : K.lookup f_is_name = some ⟨oc_is_name, od_is_name, .func (PySem.W.fnOf "is_name" "is_name" (defArgs s_is_name) (defBody s_is_name) (defScope s_is_name) .none kV_is_name dc_is_name pm_is_name an_is_name cd_is_name ct_is_name), sl_is_name⟩)
    (c_is_name : PySem.W.codeIn K cd_is_name "is_name" = true)
    (k_is_name : PySem.W.keepIn K (.ref f_is_name) = true)
    (a_SMALL : PySem.W.nsIn K mainGlobals "SMALL" = some (some (.str "abcdefghijklmnopqrstuvwxyz" t_SMALL)))
    (a_LONGEST : PySem.W.nsIn K mainGlobals "LONGEST" = some (some (.int 8 t_LONGEST)))
    (a_is_whole : PySem.W.nsIn K mainGlobals "is_whole" = some (some (.ref f_is_whole)))
    (l_is_whole : K.lookup f_is_whole = some ⟨oc_is_whole, od_is_whole, .func (PySem.W.fnOf "is_whole" "is_whole" (defArgs s_is_whole) (defBody s_is_whole) (defScope s_is_whole) .none kV_is_whole dc_is_whole pm_is_whole an_is_whole cd_is_whole ct_is_whole), sl_is_whole⟩)
    (c_is_whole : PySem.W.codeIn K cd_is_whole "is_whole" = true)
    (k_is_whole : PySem.W.keepIn K (.ref f_is_whole) = true)
    (a_is_from : PySem.W.nsIn K mainGlobals "is_from" = some (some (.ref f_is_from)))
    (l_is_from : K.lookup f_is_from = some ⟨oc_is_from, od_is_from, .func (PySem.W.fnOf "is_from" "is_from" (defArgs s_is_from) (defBody s_is_from) (defScope s_is_from) .none kV_is_from dc_is_from pm_is_from an_is_from cd_is_from ct_is_from), sl_is_from⟩)
    (c_is_from : PySem.W.codeIn K cd_is_from "is_from" = true)
    (k_is_from : PySem.W.keepIn K (.ref f_is_from) = true)
    (a_are_names : PySem.W.nsIn K mainGlobals "are_names" = some (some (.ref f_are_names)))
    (l_are_names : K.lookup f_are_names = some ⟨oc_are_names, od_are_names, .func (PySem.W.fnOf "are_names" "are_names" (defArgs s_are_names) (defBody s_are_names) (defScope s_are_names) .none kV_are_names dc_are_names pm_are_names an_are_names cd_are_names ct_are_names), sl_are_names⟩)
    (c_are_names : PySem.W.codeIn K cd_are_names "are_names" = true)
    (k_are_names : PySem.W.keepIn K (.ref f_are_names) = true)
    (a_is_beam : PySem.W.nsIn K mainGlobals "is_beam" = some (some (.ref f_is_beam)))
    (l_is_beam : K.lookup f_is_beam = some ⟨oc_is_beam, od_is_beam, .func (PySem.W.fnOf "is_beam" "is_beam" (defArgs s_is_beam) (defBody s_is_beam) (defScope s_is_beam) .none kV_is_beam dc_is_beam pm_is_beam an_is_beam cd_is_beam ct_is_beam), sl_is_beam⟩)
    (c_is_beam : PySem.W.codeIn K cd_is_beam "is_beam" = true)
    (k_is_beam : PySem.W.keepIn K (.ref f_is_beam) = true)
    (a_MOST_STEP : PySem.W.nsIn K mainGlobals "MOST_STEP" = some (some (.int 5 t_MOST_STEP)))
    (a_are_beams : PySem.W.nsIn K mainGlobals "are_beams" = some (some (.ref f_are_beams)))
    (l_are_beams : K.lookup f_are_beams = some ⟨oc_are_beams, od_are_beams, .func (PySem.W.fnOf "are_beams" "are_beams" (defArgs s_are_beams) (defBody s_are_beams) (defScope s_are_beams) .none kV_are_beams dc_are_beams pm_are_beams an_are_beams cd_are_beams ct_are_beams), sl_are_beams⟩)
    (c_are_beams : PySem.W.codeIn K cd_are_beams "are_beams" = true)
    (k_are_beams : PySem.W.keepIn K (.ref f_are_beams) = true)
    (a_MOST_BEAMS : PySem.W.nsIn K mainGlobals "MOST_BEAMS" = some (some (.int 3 t_MOST_BEAMS)))
    (a_tuples_of : PySem.W.nsIn K mainGlobals "tuples_of" = some (some (.ref f_tuples_of)))
    (l_tuples_of : K.lookup f_tuples_of = some ⟨oc_tuples_of, od_tuples_of, .func (PySem.W.fnOf "tuples_of" "tuples_of" (defArgs s_tuples_of) (defBody s_tuples_of) (defScope s_tuples_of) .none kV_tuples_of dc_tuples_of pm_tuples_of an_tuples_of cd_tuples_of ct_tuples_of), sl_tuples_of⟩)
    (c_tuples_of : PySem.W.codeIn K cd_tuples_of "tuples_of" = true)
    (k_tuples_of : PySem.W.keepIn K (.ref f_tuples_of) = true)
    (aC_Yard : PySem.W.nsIn K mainGlobals "Yard" = some (some (.ref C_Yard)))
    (pg_Yard : PySem.W.plainGet K C_Yard Str.empty = true)
    (hd_Yard : PySem.W.hasDictIn K C_Yard = true)
    (po_Yard : PySem.W.plainOver K C_Yard = true)
    (sa_Yard : PySem.W.findIn K (.ref C_Yard) "__setattr__" = some (some (.builtin "object.__setattr__")))
    (a_Yard_init : PySem.W.findIn K (.ref C_Yard) "__init__" = some (some (.ref f_Yard_init)))
    (i_Yard_init : PySem.W.isFn K (.ref f_Yard_init) = true)
    (mk_Yard : PySem.W.makesIn K C_Yard = true)
    (kC_Yard : PySem.W.keepIn K (.ref C_Yard) = true)
    (l_Yard_init : K.lookup f_Yard_init = some ⟨oc_Yard_init, od_Yard_init, .func (PySem.W.fnOf "__init__" "Yard.__init__" (defArgs s_Yard_init) (defBody s_Yard_init) (defScope s_Yard_init) .none kV_Yard_init dc_Yard_init pm_Yard_init an_Yard_init cd_Yard_init ct_Yard_init), sl_Yard_init⟩)
    (c_Yard_init : PySem.W.codeIn K cd_Yard_init "Yard.__init__" = true)
    (k_Yard_init : PySem.W.keepIn K (.ref f_Yard_init) = true)
    (a_MOST_THINGS : PySem.W.nsIn K mainGlobals "MOST_THINGS" = some (some (.int 8 t_MOST_THINGS)))
    (a_MOST_LEAN : PySem.W.nsIn K mainGlobals "MOST_LEAN" = some (some (.int 9 t_MOST_LEAN)))
    (a_MOST_WEIGHT : PySem.W.nsIn K mainGlobals "MOST_WEIGHT" = some (some (.int 100 t_MOST_WEIGHT)))
    (a_MOST_TUPLES : PySem.W.nsIn K mainGlobals "MOST_TUPLES" = some (some (.int 400 t_MOST_TUPLES)))
    (n_Yard_thing_names : PySem.W.findIn K (.ref C_Yard) "thing_names" = some none)
    (n_Yard_beam_steps : PySem.W.findIn K (.ref C_Yard) "beam_steps" = some none)
    (n_Yard_heaviest : PySem.W.findIn K (.ref C_Yard) "heaviest" = some none)
    (n_Yard_farthest : PySem.W.findIn K (.ref C_Yard) "farthest" = some none)
    (a_Yard_things : PySem.W.findIn K (.ref C_Yard) "things" = some (some (.ref f_Yard_things)))
    (i_Yard_things : PySem.W.isFn K (.ref f_Yard_things) = true)
    (l_Yard_things : K.lookup f_Yard_things = some ⟨oc_Yard_things, od_Yard_things, .func (PySem.W.fnOf "things" "Yard.things" (defArgs s_Yard_things) (defBody s_Yard_things) (defScope s_Yard_things) .none kV_Yard_things dc_Yard_things pm_Yard_things an_Yard_things cd_Yard_things ct_Yard_things), sl_Yard_things⟩)
    (c_Yard_things : PySem.W.codeIn K cd_Yard_things "Yard.things" = true)
    (k_Yard_things : PySem.W.keepIn K (.ref f_Yard_things) = true)
    (a_Yard_beams : PySem.W.findIn K (.ref C_Yard) "beams" = some (some (.ref f_Yard_beams)))
    (i_Yard_beams : PySem.W.isFn K (.ref f_Yard_beams) = true)
    (l_Yard_beams : K.lookup f_Yard_beams = some ⟨oc_Yard_beams, od_Yard_beams, .func (PySem.W.fnOf "beams" "Yard.beams" (defArgs s_Yard_beams) (defBody s_Yard_beams) (defScope s_Yard_beams) .none kV_Yard_beams dc_Yard_beams pm_Yard_beams an_Yard_beams cd_Yard_beams ct_Yard_beams), sl_Yard_beams⟩)
    (c_Yard_beams : PySem.W.codeIn K cd_Yard_beams "Yard.beams" = true)
    (k_Yard_beams : PySem.W.keepIn K (.ref f_Yard_beams) = true)
    (a_Yard_most : PySem.W.findIn K (.ref C_Yard) "most" = some (some (.ref f_Yard_most)))
    (i_Yard_most : PySem.W.isFn K (.ref f_Yard_most) = true)
    (l_Yard_most : K.lookup f_Yard_most = some ⟨oc_Yard_most, od_Yard_most, .func (PySem.W.fnOf "most" "Yard.most" (defArgs s_Yard_most) (defBody s_Yard_most) (defScope s_Yard_most) .none kV_Yard_most dc_Yard_most pm_Yard_most an_Yard_most cd_Yard_most ct_Yard_most), sl_Yard_most⟩)
    (c_Yard_most : PySem.W.codeIn K cd_Yard_most "Yard.most" = true)
    (k_Yard_most : PySem.W.keepIn K (.ref f_Yard_most) = true)
    (a_Yard_lean : PySem.W.findIn K (.ref C_Yard) "lean" = some (some (.ref f_Yard_lean)))
    (i_Yard_lean : PySem.W.isFn K (.ref f_Yard_lean) = true)
    (l_Yard_lean : K.lookup f_Yard_lean = some ⟨oc_Yard_lean, od_Yard_lean, .func (PySem.W.fnOf "lean" "Yard.lean" (defArgs s_Yard_lean) (defBody s_Yard_lean) (defScope s_Yard_lean) .none kV_Yard_lean dc_Yard_lean pm_Yard_lean an_Yard_lean cd_Yard_lean ct_Yard_lean), sl_Yard_lean⟩)
    (c_Yard_lean : PySem.W.codeIn K cd_Yard_lean "Yard.lean" = true)
    (k_Yard_lean : PySem.W.keepIn K (.ref f_Yard_lean) = true)
    (a_need_beam : PySem.W.nsIn K mainGlobals "need_beam" = some (some (.ref f_need_beam)))
    (l_need_beam : K.lookup f_need_beam = some ⟨oc_need_beam, od_need_beam, .func (PySem.W.fnOf "need_beam" "need_beam" (defArgs s_need_beam) (defBody s_need_beam) (defScope s_need_beam) .none kV_need_beam dc_need_beam pm_need_beam an_need_beam cd_need_beam ct_need_beam), sl_need_beam⟩)
    (c_need_beam : PySem.W.codeIn K cd_need_beam "need_beam" = true)
    (k_need_beam : PySem.W.keepIn K (.ref f_need_beam) = true)
    (a_Yard_step : PySem.W.findIn K (.ref C_Yard) "step" = some (some (.ref f_Yard_step)))
    (i_Yard_step : PySem.W.isFn K (.ref f_Yard_step) = true)
    (l_Yard_step : K.lookup f_Yard_step = some ⟨oc_Yard_step, od_Yard_step, .func (PySem.W.fnOf "step" "Yard.step" (defArgs s_Yard_step) (defBody s_Yard_step) (defScope s_Yard_step) .none kV_Yard_step dc_Yard_step pm_Yard_step an_Yard_step cd_Yard_step ct_Yard_step), sl_Yard_step⟩)
    (c_Yard_step : PySem.W.codeIn K cd_Yard_step "Yard.step" = true)
    (k_Yard_step : PySem.W.keepIn K (.ref f_Yard_step) = true)
    (a_need_pan : PySem.W.nsIn K mainGlobals "need_pan" = some (some (.ref f_need_pan)))
    (l_need_pan : K.lookup f_need_pan = some ⟨oc_need_pan, od_need_pan, .func (PySem.W.fnOf "need_pan" "need_pan" (defArgs s_need_pan) (defBody s_need_pan) (defScope s_need_pan) .none kV_need_pan dc_need_pan pm_need_pan an_need_pan cd_need_pan ct_need_pan), sl_need_pan⟩)
    (c_need_pan : PySem.W.codeIn K cd_need_pan "need_pan" = true)
    (k_need_pan : PySem.W.keepIn K (.ref f_need_pan) = true)
    (a_are_parts : PySem.W.nsIn K mainGlobals "are_parts" = some (some (.ref f_are_parts)))
    (l_are_parts : K.lookup f_are_parts = some ⟨oc_are_parts, od_are_parts, .func (PySem.W.fnOf "are_parts" "are_parts" (defArgs s_are_parts) (defBody s_are_parts) (defScope s_are_parts) .none kV_are_parts dc_are_parts pm_are_parts an_are_parts cd_are_parts ct_are_parts), sl_are_parts⟩)
    (c_are_parts : PySem.W.codeIn K cd_are_parts "are_parts" = true)
    (k_are_parts : PySem.W.keepIn K (.ref f_are_parts) = true)
    (a_is_row : PySem.W.nsIn K mainGlobals "is_row" = some (some (.ref f_is_row)))
    (l_is_row : K.lookup f_is_row = some ⟨oc_is_row, od_is_row, .func (PySem.W.fnOf "is_row" "is_row" (defArgs s_is_row) (defBody s_is_row) (defScope s_is_row) .none kV_is_row dc_is_row pm_is_row an_is_row cd_is_row ct_is_row), sl_is_row⟩)
    (c_is_row : PySem.W.codeIn K cd_is_row "is_row" = true)
    (k_is_row : PySem.W.keepIn K (.ref f_is_row) = true)
    (a_WORDS : PySem.W.nsIn K mainGlobals "WORDS" = some (some (.ref g_WORDS)))
    (o_WORDS : K.lookup g_WORDS = some ⟨.type "tuple", od_WORDS, .seq #[.str "left" t_WORDS0, .str "even" t_WORDS1, .str "right" t_WORDS2] nn_WORDS, sl_WORDS⟩)
    (a_need_log : PySem.W.nsIn K mainGlobals "need_log" = some (some (.ref f_need_log)))
    (l_need_log : K.lookup f_need_log = some ⟨oc_need_log, od_need_log, .func (PySem.W.fnOf "need_log" "need_log" (defArgs s_need_log) (defBody s_need_log) (defScope s_need_log) .none kV_need_log dc_need_log pm_need_log an_need_log cd_need_log ct_need_log), sl_need_log⟩)
    (c_need_log : PySem.W.codeIn K cd_need_log "need_log" = true)
    (k_need_log : PySem.W.keepIn K (.ref f_need_log) = true)
    (a_word_of : PySem.W.nsIn K mainGlobals "word_of" = some (some (.ref f_word_of)))
    (l_word_of : K.lookup f_word_of = some ⟨oc_word_of, od_word_of, .func (PySem.W.fnOf "word_of" "word_of" (defArgs s_word_of) (defBody s_word_of) (defScope s_word_of) .none kV_word_of dc_word_of pm_word_of an_word_of cd_word_of ct_word_of), sl_word_of⟩)
    (c_word_of : PySem.W.codeIn K cd_word_of "word_of" = true)
    (k_word_of : PySem.W.keepIn K (.ref f_word_of) = true)
    (a_EVEN : PySem.W.nsIn K mainGlobals "EVEN" = some (some (.str "even" t_EVEN)))
    (a_LEFT : PySem.W.nsIn K mainGlobals "LEFT" = some (some (.str "left" t_LEFT)))
    (a_RIGHT : PySem.W.nsIn K mainGlobals "RIGHT" = some (some (.str "right" t_RIGHT)))
    (a_tired : PySem.W.nsIn K mainGlobals "tired" = some (some (.ref f_tired)))
    (l_tired : K.lookup f_tired = some ⟨oc_tired, od_tired, .func (PySem.W.fnOf "tired" "tired" (defArgs s_tired) (defBody s_tired) (defScope s_tired) .none kV_tired dc_tired pm_tired an_tired cd_tired ct_tired), sl_tired⟩)
    (c_tired : PySem.W.codeIn K cd_tired "tired" = true)
    (k_tired : PySem.W.keepIn K (.ref f_tired) = true)
    (a_shifts : PySem.W.nsIn K mainGlobals "shifts" = some (some (.ref f_shifts)))
    (l_shifts : K.lookup f_shifts = some ⟨oc_shifts, od_shifts, .func (PySem.W.fnOf "shifts" "shifts" (defArgs s_shifts) (defBody s_shifts) (defScope s_shifts) .none kV_shifts dc_shifts pm_shifts an_shifts cd_shifts ct_shifts), sl_shifts⟩)
    (c_shifts : PySem.W.codeIn K cd_shifts "shifts" = true)
    (k_shifts : PySem.W.keepIn K (.ref f_shifts) = true)
    (a_is_dict_of : PySem.W.nsIn K mainGlobals "is_dict_of" = some (some (.ref f_is_dict_of)))
    (l_is_dict_of : K.lookup f_is_dict_of = some ⟨oc_is_dict_of, od_is_dict_of, .func (PySem.W.fnOf "is_dict_of" "is_dict_of" (defArgs s_is_dict_of) (defBody s_is_dict_of) (defScope s_is_dict_of) .none kV_is_dict_of dc_is_dict_of pm_is_dict_of an_is_dict_of cd_is_dict_of ct_is_dict_of), sl_is_dict_of⟩)
    (c_is_dict_of : PySem.W.codeIn K cd_is_dict_of "is_dict_of" = true)
    (k_is_dict_of : PySem.W.keepIn K (.ref f_is_dict_of) = true)
    (a_is_pair : PySem.W.nsIn K mainGlobals "is_pair" = some (some (.ref f_is_pair)))
    (l_is_pair : K.lookup f_is_pair = some ⟨oc_is_pair, od_is_pair, .func (PySem.W.fnOf "is_pair" "is_pair" (defArgs s_is_pair) (defBody s_is_pair) (defScope s_is_pair) .none kV_is_pair dc_is_pair pm_is_pair an_is_pair cd_is_pair ct_is_pair), sl_is_pair⟩)
    (c_is_pair : PySem.W.codeIn K cd_is_pair "is_pair" = true)
    (k_is_pair : PySem.W.keepIn K (.ref f_is_pair) = true)
    (a_need_world : PySem.W.nsIn K mainGlobals "need_world" = some (some (.ref f_need_world)))
    (l_need_world : K.lookup f_need_world = some ⟨oc_need_world, od_need_world, .func (PySem.W.fnOf "need_world" "need_world" (defArgs s_need_world) (defBody s_need_world) (defScope s_need_world) .none kV_need_world dc_need_world pm_need_world an_need_world cd_need_world ct_need_world), sl_need_world⟩)
    (c_need_world : PySem.W.codeIn K cd_need_world "need_world" = true)
    (k_need_world : PySem.W.keepIn K (.ref f_need_world) = true)
    (a_weight : PySem.W.nsIn K mainGlobals "weight" = some (some (.ref f_weight)))
    (l_weight : K.lookup f_weight = some ⟨oc_weight, od_weight, .func (PySem.W.fnOf "weight" "weight" (defArgs s_weight) (defBody s_weight) (defScope s_weight) .none kV_weight dc_weight pm_weight an_weight cd_weight ct_weight), sl_weight⟩)
    (c_weight : PySem.W.codeIn K cd_weight "weight" = true)
    (k_weight : PySem.W.keepIn K (.ref f_weight) = true)
    (a_told_words : PySem.W.nsIn K mainGlobals "told_words" = some (some (.ref f_told_words)))
    (l_told_words : K.lookup f_told_words = some ⟨oc_told_words, od_told_words, .func (PySem.W.fnOf "told_words" "told_words" (defArgs s_told_words) (defBody s_told_words) (defScope s_told_words) .none kV_told_words dc_told_words pm_told_words an_told_words cd_told_words ct_told_words), sl_told_words⟩)
    (c_told_words : PySem.W.codeIn K cd_told_words "told_words" = true)
    (k_told_words : PySem.W.keepIn K (.ref f_told_words) = true)
    (a_is_world : PySem.W.nsIn K mainGlobals "is_world" = some (some (.ref f_is_world)))
    (l_is_world : K.lookup f_is_world = some ⟨oc_is_world, od_is_world, .func (PySem.W.fnOf "is_world" "is_world" (defArgs s_is_world) (defBody s_is_world) (defScope s_is_world) .none kV_is_world dc_is_world pm_is_world an_is_world cd_is_world ct_is_world), sl_is_world⟩)
    (c_is_world : PySem.W.codeIn K cd_is_world "is_world" = true)
    (k_is_world : PySem.W.keepIn K (.ref f_is_world) = true)
    (a_pans : PySem.W.nsIn K mainGlobals "pans" = some (some (.ref f_pans)))
    (l_pans : K.lookup f_pans = some ⟨oc_pans, od_pans, .func (PySem.W.fnOf "pans" "pans" (defArgs s_pans) (defBody s_pans) (defScope s_pans) .none kV_pans dc_pans pm_pans an_pans cd_pans ct_pans), sl_pans⟩)
    (c_pans : PySem.W.codeIn K cd_pans "pans" = true)
    (k_pans : PySem.W.keepIn K (.ref f_pans) = true)
    (a_weighings_at : PySem.W.nsIn K mainGlobals "weighings_at" = some (some (.ref f_weighings_at)))
    (l_weighings_at : K.lookup f_weighings_at = some ⟨oc_weighings_at, od_weighings_at, .func (PySem.W.fnOf "weighings_at" "weighings_at" (defArgs s_weighings_at) (defBody s_weighings_at) (defScope s_weighings_at) .none kV_weighings_at dc_weighings_at pm_weighings_at an_weighings_at cd_weighings_at ct_weighings_at), sl_weighings_at⟩)
    (c_weighings_at : PySem.W.codeIn K cd_weighings_at "weighings_at" = true)
    (k_weighings_at : PySem.W.keepIn K (.ref f_weighings_at) = true)
    (a_need_steps : PySem.W.nsIn K mainGlobals "need_steps" = some (some (.ref f_need_steps)))
    (l_need_steps : K.lookup f_need_steps = some ⟨oc_need_steps, od_need_steps, .func (PySem.W.fnOf "need_steps" "need_steps" (defArgs s_need_steps) (defBody s_need_steps) (defScope s_need_steps) .none kV_need_steps dc_need_steps pm_need_steps an_need_steps cd_need_steps ct_need_steps), sl_need_steps⟩)
    (c_need_steps : PySem.W.codeIn K cd_need_steps "need_steps" = true)
    (k_need_steps : PySem.W.keepIn K (.ref f_need_steps) = true)
    (a_total_at : PySem.W.nsIn K mainGlobals "total_at" = some (some (.ref f_total_at)))
    (l_total_at : K.lookup f_total_at = some ⟨oc_total_at, od_total_at, .func (PySem.W.fnOf "total_at" "total_at" (defArgs s_total_at) (defBody s_total_at) (defScope s_total_at) .none kV_total_at dc_total_at pm_total_at an_total_at cd_total_at ct_total_at), sl_total_at⟩)
    (c_total_at : PySem.W.codeIn K cd_total_at "total_at" = true)
    (k_total_at : PySem.W.keepIn K (.ref f_total_at) = true)
    (a_parting_at : PySem.W.nsIn K mainGlobals "parting_at" = some (some (.ref f_parting_at)))
    (l_parting_at : K.lookup f_parting_at = some ⟨oc_parting_at, od_parting_at, .func (PySem.W.fnOf "parting_at" "parting_at" (defArgs s_parting_at) (defBody s_parting_at) (defScope s_parting_at) .none kV_parting_at dc_parting_at pm_parting_at an_parting_at cd_parting_at ct_parting_at), sl_parting_at⟩)
    (c_parting_at : PySem.W.codeIn K cd_parting_at "parting_at" = true)
    (k_parting_at : PySem.W.keepIn K (.ref f_parting_at) = true)
    (a_parting : PySem.W.nsIn K mainGlobals "parting" = some (some (.ref f_parting)))
    (l_parting : K.lookup f_parting = some ⟨oc_parting, od_parting, .func (PySem.W.fnOf "parting" "parting" (defArgs s_parting) (defBody s_parting) (defScope s_parting) .none (.ref kd_parting) dc_parting pm_parting an_parting cd_parting ct_parting), sl_parting⟩)
    (c_parting : PySem.W.codeIn K cd_parting "parting" = true)
    (k_parting : PySem.W.keepIn K (.ref f_parting) = true)
    (w_parting : PySem.W.nsIn K kd_parting "log" = some (some (.ref et_parting)))
    (e_parting : K.lookup et_parting = some ⟨.type "tuple", oe_parting, .seq #[] ne_parting, se_parting⟩)
    (a_alike : PySem.W.nsIn K mainGlobals "alike" = some (some (.ref f_alike)))
    (l_alike : K.lookup f_alike = some ⟨oc_alike, od_alike, .func (PySem.W.fnOf "alike" "alike" (defArgs s_alike) (defBody s_alike) (defScope s_alike) .none kV_alike dc_alike pm_alike an_alike cd_alike ct_alike), sl_alike⟩)
    (c_alike : PySem.W.codeIn K cd_alike "alike" = true)
    (k_alike : PySem.W.keepIn K (.ref f_alike) = true)
    (a__law_next : PySem.W.nsIn K mainGlobals "_law_next" = some (some (.ref f__law_next)))
    (l__law_next : K.lookup f__law_next = some ⟨oc__law_next, od__law_next, .func (PySem.W.fnOf "_law_next" "_law_next" (defArgs s__law_next) (defBody s__law_next) (defScope s__law_next) .none kV__law_next dc__law_next pm__law_next an__law_next cd__law_next ct__law_next), sl__law_next⟩)
    (c__law_next : PySem.W.codeIn K cd__law_next "_law_next" = true)
    (k__law_next : PySem.W.keepIn K (.ref f__law_next) = true)
    (a__law_pick : PySem.W.nsIn K mainGlobals "_law_pick" = some (some (.ref f__law_pick)))
    (l__law_pick : K.lookup f__law_pick = some ⟨oc__law_pick, od__law_pick, .func (PySem.W.fnOf "_law_pick" "_law_pick" (defArgs s__law_pick) (defBody s__law_pick) (defScope s__law_pick) .none kV__law_pick dc__law_pick pm__law_pick an__law_pick cd__law_pick ct__law_pick), sl__law_pick⟩)
    (c__law_pick : PySem.W.codeIn K cd__law_pick "_law_pick" = true)
    (k__law_pick : PySem.W.keepIn K (.ref f__law_pick) = true)
    (a__law_names : PySem.W.nsIn K mainGlobals "_law_names" = some (some (.ref f__law_names)))
    (l__law_names : K.lookup f__law_names = some ⟨oc__law_names, od__law_names, .func (PySem.W.fnOf "_law_names" "_law_names" (defArgs s__law_names) (defBody s__law_names) (defScope s__law_names) .none kV__law_names dc__law_names pm__law_names an__law_names cd__law_names ct__law_names), sl__law_names⟩)
    (c__law_names : PySem.W.codeIn K cd__law_names "_law_names" = true)
    (k__law_names : PySem.W.keepIn K (.ref f__law_names) = true)
    (a__law_row : PySem.W.nsIn K mainGlobals "_law_row" = some (some (.ref f__law_row)))
    (l__law_row : K.lookup f__law_row = some ⟨oc__law_row, od__law_row, .func (PySem.W.fnOf "_law_row" "_law_row" (defArgs s__law_row) (defBody s__law_row) (defScope s__law_row) .none kV__law_row dc__law_row pm__law_row an__law_row cd__law_row ct__law_row), sl__law_row⟩)
    (c__law_row : PySem.W.codeIn K cd__law_row "_law_row" = true)
    (k__law_row : PySem.W.keepIn K (.ref f__law_row) = true)
    (a__law_world : PySem.W.nsIn K mainGlobals "_law_world" = some (some (.ref f__law_world)))
    (l__law_world : K.lookup f__law_world = some ⟨oc__law_world, od__law_world, .func (PySem.W.fnOf "_law_world" "_law_world" (defArgs s__law_world) (defBody s__law_world) (defScope s__law_world) .none kV__law_world dc__law_world pm__law_world an__law_world cd__law_world ct__law_world), sl__law_world⟩)
    (c__law_world : PySem.W.codeIn K cd__law_world "_law_world" = true)
    (k__law_world : PySem.W.keepIn K (.ref f__law_world) = true)
    (a__law_sign : PySem.W.nsIn K mainGlobals "_law_sign" = some (some (.ref f__law_sign)))
    (l__law_sign : K.lookup f__law_sign = some ⟨oc__law_sign, od__law_sign, .func (PySem.W.fnOf "_law_sign" "_law_sign" (defArgs s__law_sign) (defBody s__law_sign) (defScope s__law_sign) .none kV__law_sign dc__law_sign pm__law_sign an__law_sign cd__law_sign ct__law_sign), sl__law_sign⟩)
    (c__law_sign : PySem.W.codeIn K cd__law_sign "_law_sign" = true)
    (k__law_sign : PySem.W.keepIn K (.ref f__law_sign) = true)
    (a__law_told : PySem.W.nsIn K mainGlobals "_law_told" = some (some (.ref f__law_told)))
    (l__law_told : K.lookup f__law_told = some ⟨oc__law_told, od__law_told, .func (PySem.W.fnOf "_law_told" "_law_told" (defArgs s__law_told) (defBody s__law_told) (defScope s__law_told) .none kV__law_told dc__law_told pm__law_told an__law_told cd__law_told ct__law_told), sl__law_told⟩)
    (c__law_told : PySem.W.codeIn K cd__law_told "_law_told" = true)
    (k__law_told : PySem.W.keepIn K (.ref f__law_told) = true)
    (a__law_up : PySem.W.nsIn K mainGlobals "_law_up" = some (some (.ref f__law_up)))
    (l__law_up : K.lookup f__law_up = some ⟨oc__law_up, od__law_up, .func (PySem.W.fnOf "_law_up" "_law_up" (defArgs s__law_up) (defBody s__law_up) (defScope s__law_up) .none kV__law_up dc__law_up pm__law_up an__law_up cd__law_up ct__law_up), sl__law_up⟩)
    (c__law_up : PySem.W.codeIn K cd__law_up "_law_up" = true)
    (k__law_up : PySem.W.keepIn K (.ref f__law_up) = true)
    (a__law_marks : PySem.W.nsIn K mainGlobals "_law_marks" = some (some (.ref f__law_marks)))
    (l__law_marks : K.lookup f__law_marks = some ⟨oc__law_marks, od__law_marks, .func (PySem.W.fnOf "_law_marks" "_law_marks" (defArgs s__law_marks) (defBody s__law_marks) (defScope s__law_marks) .none kV__law_marks dc__law_marks pm__law_marks an__law_marks cd__law_marks ct__law_marks), sl__law_marks⟩)
    (c__law_marks : PySem.W.codeIn K cd__law_marks "_law_marks" = true)
    (k__law_marks : PySem.W.keepIn K (.ref f__law_marks) = true)
    (a__law_turned : PySem.W.nsIn K mainGlobals "_law_turned" = some (some (.ref f__law_turned)))
    (l__law_turned : K.lookup f__law_turned = some ⟨oc__law_turned, od__law_turned, .func (PySem.W.fnOf "_law_turned" "_law_turned" (defArgs s__law_turned) (defBody s__law_turned) (defScope s__law_turned) .none kV__law_turned dc__law_turned pm__law_turned an__law_turned cd__law_turned ct__law_turned), sl__law_turned⟩)
    (c__law_turned : PySem.W.codeIn K cd__law_turned "_law_turned" = true)
    (k__law_turned : PySem.W.keepIn K (.ref f__law_turned) = true)
    (a__law_near : PySem.W.nsIn K mainGlobals "_law_near" = some (some (.ref f__law_near)))
    (l__law_near : K.lookup f__law_near = some ⟨oc__law_near, od__law_near, .func (PySem.W.fnOf "_law_near" "_law_near" (defArgs s__law_near) (defBody s__law_near) (defScope s__law_near) .none kV__law_near dc__law_near pm__law_near an__law_near cd__law_near ct__law_near), sl__law_near⟩)
    (c__law_near : PySem.W.codeIn K cd__law_near "_law_near" = true)
    (k__law_near : PySem.W.keepIn K (.ref f__law_near) = true)
    (a__law_two_right : PySem.W.nsIn K mainGlobals "_law_two_right" = some (some (.ref f__law_two_right)))
    (l__law_two_right : K.lookup f__law_two_right = some ⟨oc__law_two_right, od__law_two_right, .func (PySem.W.fnOf "_law_two_right" "_law_two_right" (defArgs s__law_two_right) (defBody s__law_two_right) (defScope s__law_two_right) .none kV__law_two_right dc__law_two_right pm__law_two_right an__law_two_right cd__law_two_right ct__law_two_right), sl__law_two_right⟩)
    (c__law_two_right : PySem.W.codeIn K cd__law_two_right "_law_two_right" = true)
    (k__law_two_right : PySem.W.keepIn K (.ref f__law_two_right) = true)
    (a_law : PySem.W.nsIn K mainGlobals "law" = some (some (.ref f_law)))
    (l_law : K.lookup f_law = some ⟨oc_law, od_law, .func (PySem.W.fnOf "law" "law" (defArgs s_law) (defBody s_law) (defScope s_law) .none kV_law dc_law pm_law an_law cd_law ct_law), sl_law⟩)
    (c_law : PySem.W.codeIn K cd_law "law" = true)
    (k_law : PySem.W.keepIn K (.ref f_law) = true) :
    ∃ fd : FuncData, (∀ (s : Shared) (v : Value), BindsTo s fd ⟨[v], []⟩ [("script", v)]) ∧ ∀ base : Heap, K.In base → base.Ns mainGlobals mg → FnG l.prog w K mg base 10 fa fd ["script"] (spLaw3 K) := by
  have e := hfa.symm.trans (PySem.W.mg_of X G a_law)
  cases e
  have T : Top K mg := {
    B := fun x hx => by
      simp only [bltNames, List.mem_cons, List.not_mem_nil, or_false] at hx
      rcases hx with rfl | rfl | rfl | rfl | rfl | rfl | rfl | rfl | rfl | rfl | rfl | rfl | rfl | rfl | rfl | rfl | rfl
      · exact PySem.W.mg_none_of X G z_abs
      · exact PySem.W.mg_none_of X G z_all
      · exact PySem.W.mg_none_of X G z_dict
      · exact PySem.W.mg_none_of X G z_enumerate
      · exact PySem.W.mg_none_of X G z_int
      · exact PySem.W.mg_none_of X G z_isinstance
      · exact PySem.W.mg_none_of X G z_len
      · exact PySem.W.mg_none_of X G z_list
      · exact PySem.W.mg_none_of X G z_max
      · exact PySem.W.mg_none_of X G z_min
      · exact PySem.W.mg_none_of X G z_range
      · exact PySem.W.mg_none_of X G z_repr
      · exact PySem.W.mg_none_of X G z_sum
      · exact PySem.W.mg_none_of X G z_tuple
      · exact PySem.W.mg_none_of X G z_zip
      · exact PySem.W.mg_none_of X G z_bool
      · exact PySem.W.mg_none_of X G z_str
    d__law_begun := ⟨_, _, (fun_mk (st := s_begun) l__law_begun c__law_begun k__law_begun), PySem.W.mg_of X G a__law_begun⟩
    d_is_name := ⟨_, _, (fun_mk (st := s_is_name) l_is_name c_is_name k_is_name), PySem.W.mg_of X G a_is_name⟩
    g_SMALL := ⟨.str "abcdefghijklmnopqrstuvwxyz", _, PySem.W.mg_of X G a_SMALL, ⟨t_SMALL, rfl⟩, fun _ _ => .str _⟩
    g_LONGEST := ⟨.int 8, _, PySem.W.mg_of X G a_LONGEST, ⟨t_LONGEST, rfl⟩, fun _ _ => .int _⟩
    d_is_whole := ⟨_, _, (fun_mk (st := s_is_whole) l_is_whole c_is_whole k_is_whole), PySem.W.mg_of X G a_is_whole⟩
    d_is_from := ⟨_, _, (fun_mk (st := s_is_from) l_is_from c_is_from k_is_from), PySem.W.mg_of X G a_is_from⟩
    d_are_names := ⟨_, _, (fun_mk (st := s_are_names) l_are_names c_are_names k_are_names), PySem.W.mg_of X G a_are_names⟩
    d_is_beam := ⟨_, _, (fun_mk (st := s_is_beam) l_is_beam c_is_beam k_is_beam), PySem.W.mg_of X G a_is_beam⟩
    g_MOST_STEP := ⟨.int 5, _, PySem.W.mg_of X G a_MOST_STEP, ⟨t_MOST_STEP, rfl⟩, fun _ _ => .int _⟩
    d_are_beams := ⟨_, _, (fun_mk (st := s_are_beams) l_are_beams c_are_beams k_are_beams), PySem.W.mg_of X G a_are_beams⟩
    g_MOST_BEAMS := ⟨.int 3, _, PySem.W.mg_of X G a_MOST_BEAMS, ⟨t_MOST_BEAMS, rfl⟩, fun _ _ => .int _⟩
    d_tuples_of := ⟨_, _, (fun_mk (st := s_tuples_of) l_tuples_of c_tuples_of k_tuples_of), PySem.W.mg_of X G a_tuples_of⟩
    d_Yard_init := ⟨_, _, _, PySem.W.mg_of X G aC_Yard, ⟨mk_Yard, a_Yard_init, i_Yard_init, kC_Yard⟩, (fun_mk (st := s_Yard_init) l_Yard_init c_Yard_init k_Yard_init)⟩
    g_MOST_THINGS := ⟨.int 8, _, PySem.W.mg_of X G a_MOST_THINGS, ⟨t_MOST_THINGS, rfl⟩, fun _ _ => .int _⟩
    g_MOST_LEAN := ⟨.int 9, _, PySem.W.mg_of X G a_MOST_LEAN, ⟨t_MOST_LEAN, rfl⟩, fun _ _ => .int _⟩
    g_MOST_WEIGHT := ⟨.int 100, _, PySem.W.mg_of X G a_MOST_WEIGHT, ⟨t_MOST_WEIGHT, rfl⟩, fun _ _ => .int _⟩
    g_MOST_TUPLES := ⟨.int 400, _, PySem.W.mg_of X G a_MOST_TUPLES, ⟨t_MOST_TUPLES, rfl⟩, fun _ _ => .int _⟩
    f_Yard_thing_names := ⟨_, PySem.W.mg_of X G aC_Yard, ⟨pg_Yard, hd_Yard, po_Yard, sa_Yard⟩, n_Yard_thing_names⟩
    f_Yard_beam_steps := ⟨_, PySem.W.mg_of X G aC_Yard, ⟨pg_Yard, hd_Yard, po_Yard, sa_Yard⟩, n_Yard_beam_steps⟩
    f_Yard_heaviest := ⟨_, PySem.W.mg_of X G aC_Yard, ⟨pg_Yard, hd_Yard, po_Yard, sa_Yard⟩, n_Yard_heaviest⟩
    f_Yard_farthest := ⟨_, PySem.W.mg_of X G aC_Yard, ⟨pg_Yard, hd_Yard, po_Yard, sa_Yard⟩, n_Yard_farthest⟩
    d_Yard_things := ⟨_, _, _, PySem.W.mg_of X G aC_Yard, ⟨pg_Yard, hd_Yard, po_Yard, sa_Yard⟩, ⟨a_Yard_things, i_Yard_things, k_Yard_things⟩, (fun_mk (st := s_Yard_things) l_Yard_things c_Yard_things k_Yard_things)⟩
    d_Yard_beams := ⟨_, _, _, PySem.W.mg_of X G aC_Yard, ⟨pg_Yard, hd_Yard, po_Yard, sa_Yard⟩, ⟨a_Yard_beams, i_Yard_beams, k_Yard_beams⟩, (fun_mk (st := s_Yard_beams) l_Yard_beams c_Yard_beams k_Yard_beams)⟩
    d_Yard_most := ⟨_, _, _, PySem.W.mg_of X G aC_Yard, ⟨pg_Yard, hd_Yard, po_Yard, sa_Yard⟩, ⟨a_Yard_most, i_Yard_most, k_Yard_most⟩, (fun_mk (st := s_Yard_most) l_Yard_most c_Yard_most k_Yard_most)⟩
    d_Yard_lean := ⟨_, _, _, PySem.W.mg_of X G aC_Yard, ⟨pg_Yard, hd_Yard, po_Yard, sa_Yard⟩, ⟨a_Yard_lean, i_Yard_lean, k_Yard_lean⟩, (fun_mk (st := s_Yard_lean) l_Yard_lean c_Yard_lean k_Yard_lean)⟩
    d_need_beam := ⟨_, _, (fun_mk (st := s_need_beam) l_need_beam c_need_beam k_need_beam), PySem.W.mg_of X G a_need_beam⟩
    d_Yard_step := ⟨_, _, _, PySem.W.mg_of X G aC_Yard, ⟨pg_Yard, hd_Yard, po_Yard, sa_Yard⟩, ⟨a_Yard_step, i_Yard_step, k_Yard_step⟩, (fun_mk (st := s_Yard_step) l_Yard_step c_Yard_step k_Yard_step)⟩
    d_need_pan := ⟨_, _, (fun_mk (st := s_need_pan) l_need_pan c_need_pan k_need_pan), PySem.W.mg_of X G a_need_pan⟩
    d_are_parts := ⟨_, _, (fun_mk (st := s_are_parts) l_are_parts c_are_parts k_are_parts), PySem.W.mg_of X G a_are_parts⟩
    d_is_row := ⟨_, _, (fun_mk (st := s_is_row) l_is_row c_is_row k_is_row), PySem.W.mg_of X G a_is_row⟩
    g_WORDS := ⟨.ref g_WORDS, _, PySem.W.mg_of X G a_WORDS, rfl, fun S G => .tup (vs := [.str "left", .str "even", .str "right"]) (.inr ⟨_, _, _, o_WORDS, rfl, rfl, (show 3 ≤ sizeLine by decide), (.cons ⟨_, rfl⟩ (.cons ⟨_, rfl⟩ (.cons ⟨_, rfl⟩ .nil)))⟩) (.cons (.str _) (.cons (.str _) (.cons (.str _) .nil)))⟩
    d_need_log := ⟨_, _, (fun_mk (st := s_need_log) l_need_log c_need_log k_need_log), PySem.W.mg_of X G a_need_log⟩
    d_word_of := ⟨_, _, (fun_mk (st := s_word_of) l_word_of c_word_of k_word_of), PySem.W.mg_of X G a_word_of⟩
    g_EVEN := ⟨.str "even", _, PySem.W.mg_of X G a_EVEN, ⟨t_EVEN, rfl⟩, fun _ _ => .str _⟩
    g_LEFT := ⟨.str "left", _, PySem.W.mg_of X G a_LEFT, ⟨t_LEFT, rfl⟩, fun _ _ => .str _⟩
    g_RIGHT := ⟨.str "right", _, PySem.W.mg_of X G a_RIGHT, ⟨t_RIGHT, rfl⟩, fun _ _ => .str _⟩
    d_tired := ⟨_, _, (fun_mk (st := s_tired) l_tired c_tired k_tired), PySem.W.mg_of X G a_tired⟩
    d_shifts := ⟨_, _, (fun_mk (st := s_shifts) l_shifts c_shifts k_shifts), PySem.W.mg_of X G a_shifts⟩
    d_is_dict_of := ⟨_, _, (fun_mk (st := s_is_dict_of) l_is_dict_of c_is_dict_of k_is_dict_of), PySem.W.mg_of X G a_is_dict_of⟩
    d_is_pair := ⟨_, _, (fun_mk (st := s_is_pair) l_is_pair c_is_pair k_is_pair), PySem.W.mg_of X G a_is_pair⟩
    d_need_world := ⟨_, _, (fun_mk (st := s_need_world) l_need_world c_need_world k_need_world), PySem.W.mg_of X G a_need_world⟩
    d_weight := ⟨_, _, (fun_mk (st := s_weight) l_weight c_weight k_weight), PySem.W.mg_of X G a_weight⟩
    d_told_words := ⟨_, _, (fun_mk (st := s_told_words) l_told_words c_told_words k_told_words), PySem.W.mg_of X G a_told_words⟩
    d_is_world := ⟨_, _, (fun_mk (st := s_is_world) l_is_world c_is_world k_is_world), PySem.W.mg_of X G a_is_world⟩
    d_pans := ⟨_, _, (fun_mk (st := s_pans) l_pans c_pans k_pans), PySem.W.mg_of X G a_pans⟩
    d_weighings_at := ⟨_, _, (fun_mk (st := s_weighings_at) l_weighings_at c_weighings_at k_weighings_at), PySem.W.mg_of X G a_weighings_at⟩
    d_need_steps := ⟨_, _, (fun_mk (st := s_need_steps) l_need_steps c_need_steps k_need_steps), PySem.W.mg_of X G a_need_steps⟩
    d_total_at := ⟨_, _, (fun_mk (st := s_total_at) l_total_at c_total_at k_total_at), PySem.W.mg_of X G a_total_at⟩
    d_parting_at := ⟨_, _, (fun_mk (st := s_parting_at) l_parting_at c_parting_at k_parting_at), PySem.W.mg_of X G a_parting_at⟩
    d_parting := ⟨_, _, .ref et_parting, ⟨⟨_, _, _, _, _, _, _, _, _, _, rfl, l_parting, c_parting, .inl ⟨rfl, rfl⟩, .inr ⟨kd_parting, rfl, fun q hq => by cases List.mem_singleton.mp hq; exact ⟨_, w_parting, rfl⟩⟩⟩, k_parting⟩, PySem.W.mg_of X G a_parting, fun S G => .tup (vs := []) (.inr ⟨_, _, _, e_parting, rfl, rfl, (show 0 ≤ sizeLine by decide), .nil⟩) .nil⟩
    d_alike := ⟨_, _, (fun_mk (st := s_alike) l_alike c_alike k_alike), PySem.W.mg_of X G a_alike⟩
    d__law_next := ⟨_, _, (fun_mk (st := s__law_next) l__law_next c__law_next k__law_next), PySem.W.mg_of X G a__law_next⟩
    d__law_pick := ⟨_, _, (fun_mk (st := s__law_pick) l__law_pick c__law_pick k__law_pick), PySem.W.mg_of X G a__law_pick⟩
    d__law_names := ⟨_, _, (fun_mk (st := s__law_names) l__law_names c__law_names k__law_names), PySem.W.mg_of X G a__law_names⟩
    d__law_row := ⟨_, _, (fun_mk (st := s__law_row) l__law_row c__law_row k__law_row), PySem.W.mg_of X G a__law_row⟩
    d__law_world := ⟨_, _, (fun_mk (st := s__law_world) l__law_world c__law_world k__law_world), PySem.W.mg_of X G a__law_world⟩
    d__law_sign := ⟨_, _, (fun_mk (st := s__law_sign) l__law_sign c__law_sign k__law_sign), PySem.W.mg_of X G a__law_sign⟩
    d__law_told := ⟨_, _, (fun_mk (st := s__law_told) l__law_told c__law_told k__law_told), PySem.W.mg_of X G a__law_told⟩
    d__law_up := ⟨_, _, (fun_mk (st := s__law_up) l__law_up c__law_up k__law_up), PySem.W.mg_of X G a__law_up⟩
    d__law_marks := ⟨_, _, (fun_mk (st := s__law_marks) l__law_marks c__law_marks k__law_marks), PySem.W.mg_of X G a__law_marks⟩
    d__law_turned := ⟨_, _, (fun_mk (st := s__law_turned) l__law_turned c__law_turned k__law_turned), PySem.W.mg_of X G a__law_turned⟩
    d__law_near := ⟨_, _, (fun_mk (st := s__law_near) l__law_near c__law_near k__law_near), PySem.W.mg_of X G a__law_near⟩
    d__law_two_right := ⟨_, _, (fun_mk (st := s__law_two_right) l__law_two_right c__law_two_right k__law_two_right), PySem.W.mg_of X G a__law_two_right⟩ }
  have F := (fun_mk (st := s_law) l_law c_law k_law)
  exact ⟨PySem.W.fnOf "law" "law" (defArgs s_law) (defBody s_law) (defScope s_law) .none kV_law dc_law pm_law an_law cd_law ct_law, fun s v => .of_eq rfl, fun base _ _ => ok_law T M F⟩
end K3
end
set_option Elab.async false
set_option maxRecDepth 100000
open PySem PySem.W PyProof.Rows
set_option maxRecDepth 100000 in
set_option maxHeartbeats 0 in
theorem PySem.Challenge.cw_wearybeams_k38_alike_for_ever_holds : PySem.Challenge.rw_wearybeams_k38_alike_for_ever.Holds := by
  w_on; o_law; k_head; (case hw => w_witness2)
  k_fill
  refine Mir.walk_ofG (l := PySem.Challenge.rw_wearybeams_k38_alike_for_ever) (n := 63) (k := 10) (x := "script") (sp := K3.spLaw3) rfl (by decide) rfl ⟨rfl, by decide, by decide⟩ (fun w h Y => PySem.W.kIn_of Y) ?F (fun _ _ a ns hl _ _ hS => ⟨a, ns, rfl, hS, hl, fun _ => rfl⟩)
  case F =>
    intro w mg fa h KX G hmg
    refine' K3.head_mk K3.math KX G hmg ?z_abs ?z_all ?z_dict ?z_enumerate ?z_int ?z_isinstance ?z_len ?z_list ?z_max ?z_min ?z_range ?z_repr ?z_sum ?z_tuple ?z_zip ?z_bool ?z_str ?a__law_begun ?l__law_begun ?c__law_begun ?k__law_begun ?a_is_name ?l_is_name ?c_is_name ?k_is_name ?a_SMALL ?a_LONGEST ?a_is_whole ?l_is_whole ?c_is_whole ?k_is_whole ?a_is_from ?l_is_from ?c_is_from ?k_is_from ?a_are_names ?l_are_names ?c_are_names ?k_are_names ?a_is_beam ?l_is_beam ?c_is_beam ?k_is_beam ?a_MOST_STEP ?a_are_beams ?l_are_beams ?c_are_beams ?k_are_beams ?a_MOST_BEAMS ?a_tuples_of ?l_tuples_of ?c_tuples_of ?k_tuples_of ?aC_Yard ?pg_Yard ?hd_Yard ?po_Yard ?sa_Yard ?a_Yard_init ?i_Yard_init ?mk_Yard ?kC_Yard ?l_Yard_init ?c_Yard_init ?k_Yard_init ?a_MOST_THINGS ?a_MOST_LEAN ?a_MOST_WEIGHT ?a_MOST_TUPLES ?n_Yard_thing_names ?n_Yard_beam_steps ?n_Yard_heaviest ?n_Yard_farthest ?a_Yard_things ?i_Yard_things ?l_Yard_things ?c_Yard_things ?k_Yard_things ?a_Yard_beams ?i_Yard_beams ?l_Yard_beams ?c_Yard_beams ?k_Yard_beams ?a_Yard_most ?i_Yard_most ?l_Yard_most ?c_Yard_most ?k_Yard_most ?a_Yard_lean ?i_Yard_lean ?l_Yard_lean ?c_Yard_lean ?k_Yard_lean ?a_need_beam ?l_need_beam ?c_need_beam ?k_need_beam ?a_Yard_step ?i_Yard_step ?l_Yard_step ?c_Yard_step ?k_Yard_step ?a_need_pan ?l_need_pan ?c_need_pan ?k_need_pan ?a_are_parts ?l_are_parts ?c_are_parts ?k_are_parts ?a_is_row ?l_is_row ?c_is_row ?k_is_row ?a_WORDS ?o_WORDS ?a_need_log ?l_need_log ?c_need_log ?k_need_log ?a_word_of ?l_word_of ?c_word_of ?k_word_of ?a_EVEN ?a_LEFT ?a_RIGHT ?a_tired ?l_tired ?c_tired ?k_tired ?a_shifts ?l_shifts ?c_shifts ?k_shifts ?a_is_dict_of ?l_is_dict_of ?c_is_dict_of ?k_is_dict_of ?a_is_pair ?l_is_pair ?c_is_pair ?k_is_pair ?a_need_world ?l_need_world ?c_need_world ?k_need_world ?a_weight ?l_weight ?c_weight ?k_weight ?a_told_words ?l_told_words ?c_told_words ?k_told_words ?a_is_world ?l_is_world ?c_is_world ?k_is_world ?a_pans ?l_pans ?c_pans ?k_pans ?a_weighings_at ?l_weighings_at ?c_weighings_at ?k_weighings_at ?a_need_steps ?l_need_steps ?c_need_steps ?k_need_steps ?a_total_at ?l_total_at ?c_total_at ?k_total_at ?a_parting_at ?l_parting_at ?c_parting_at ?k_parting_at ?a_parting ?l_parting ?c_parting ?k_parting ?w_parting ?e_parting ?a_alike ?l_alike ?c_alike ?k_alike ?a__law_next ?l__law_next ?c__law_next ?k__law_next ?a__law_pick ?l__law_pick ?c__law_pick ?k__law_pick ?a__law_names ?l__law_names ?c__law_names ?k__law_names ?a__law_row ?l__law_row ?c__law_row ?k__law_row ?a__law_world ?l__law_world ?c__law_world ?k__law_world ?a__law_sign ?l__law_sign ?c__law_sign ?k__law_sign ?a__law_told ?l__law_told ?c__law_told ?k__law_told ?a__law_up ?l__law_up ?c__law_up ?k__law_up ?a__law_marks ?l__law_marks ?c__law_marks ?k__law_marks ?a__law_turned ?l__law_turned ?c__law_turned ?k__law_turned ?a__law_near ?l__law_near ?c__law_near ?k__law_near ?a__law_two_right ?l__law_two_right ?c__law_two_right ?k__law_two_right ?a_law ?l_law ?c_law ?k_law
    (case z_abs => k_is); (case z_all => k_is); (case z_dict => k_is); (case z_enumerate => k_is); (case z_int => k_is); (case z_isinstance => k_is)
    (case z_len => k_is); (case z_list => k_is); (case z_max => k_is); (case z_min => k_is); (case z_range => k_is); (case z_repr => k_is)
    (case z_sum => k_is); (case z_tuple => k_is); (case z_zip => k_is); (case z_bool => k_is); (case z_str => k_is); (case a__law_begun => k_is)
    (case l__law_begun => k_is); (case c__law_begun => k_is); (case k__law_begun => k_is); (case a_is_name => k_is); (case l_is_name => k_is); (case c_is_name => k_is)
    (case k_is_name => k_is); (case a_SMALL => k_is); (case a_LONGEST => k_is); (case a_is_whole => k_is); (case l_is_whole => k_is); (case c_is_whole => k_is)
    (case k_is_whole => k_is); (case a_is_from => k_is); (case l_is_from => k_is); (case c_is_from => k_is); (case k_is_from => k_is); (case a_are_names => k_is)
    (case l_are_names => k_is); (case c_are_names => k_is); (case k_are_names => k_is); (case a_is_beam => k_is); (case l_is_beam => k_is); (case c_is_beam => k_is)
    (case k_is_beam => k_is); (case a_MOST_STEP => k_is); (case a_are_beams => k_is); (case l_are_beams => k_is); (case c_are_beams => k_is); (case k_are_beams => k_is)
    (case a_MOST_BEAMS => k_is); (case a_tuples_of => k_is); (case l_tuples_of => k_is); (case c_tuples_of => k_is); (case k_tuples_of => k_is); (case aC_Yard => k_is)
    (case pg_Yard => k_is); (case hd_Yard => k_is); (case po_Yard => k_is); (case sa_Yard => k_is); (case a_Yard_init => k_is); (case i_Yard_init => k_is)
    (case mk_Yard => k_is); (case kC_Yard => k_is); (case l_Yard_init => k_is); (case c_Yard_init => k_is); (case k_Yard_init => k_is); (case a_MOST_THINGS => k_is)
    (case a_MOST_LEAN => k_is); (case a_MOST_WEIGHT => k_is); (case a_MOST_TUPLES => k_is); (case n_Yard_thing_names => k_is); (case n_Yard_beam_steps => k_is); (case n_Yard_heaviest => k_is)
    (case n_Yard_farthest => k_is); (case a_Yard_things => k_is); (case i_Yard_things => k_is); (case l_Yard_things => k_is); (case c_Yard_things => k_is); (case k_Yard_things => k_is)
    (case a_Yard_beams => k_is); (case i_Yard_beams => k_is); (case l_Yard_beams => k_is); (case c_Yard_beams => k_is); (case k_Yard_beams => k_is); (case a_Yard_most => k_is)
    (case i_Yard_most => k_is); (case l_Yard_most => k_is); (case c_Yard_most => k_is); (case k_Yard_most => k_is); (case a_Yard_lean => k_is); (case i_Yard_lean => k_is)
    (case l_Yard_lean => k_is); (case c_Yard_lean => k_is); (case k_Yard_lean => k_is); (case a_need_beam => k_is); (case l_need_beam => k_is); (case c_need_beam => k_is)
    (case k_need_beam => k_is); (case a_Yard_step => k_is); (case i_Yard_step => k_is); (case l_Yard_step => k_is); (case c_Yard_step => k_is); (case k_Yard_step => k_is)
    (case a_need_pan => k_is); (case l_need_pan => k_is); (case c_need_pan => k_is); (case k_need_pan => k_is); (case a_are_parts => k_is); (case l_are_parts => k_is)
    (case c_are_parts => k_is); (case k_are_parts => k_is); (case a_is_row => k_is); (case l_is_row => k_is); (case c_is_row => k_is); (case k_is_row => k_is)
    (case a_WORDS => k_is); (case o_WORDS => k_is); (case a_need_log => k_is); (case l_need_log => k_is); (case c_need_log => k_is); (case k_need_log => k_is)
    (case a_word_of => k_is); (case l_word_of => k_is); (case c_word_of => k_is); (case k_word_of => k_is); (case a_EVEN => k_is); (case a_LEFT => k_is)
    (case a_RIGHT => k_is); (case a_tired => k_is); (case l_tired => k_is); (case c_tired => k_is); (case k_tired => k_is); (case a_shifts => k_is)
    (case l_shifts => k_is); (case c_shifts => k_is); (case k_shifts => k_is); (case a_is_dict_of => k_is); (case l_is_dict_of => k_is); (case c_is_dict_of => k_is)
    (case k_is_dict_of => k_is); (case a_is_pair => k_is); (case l_is_pair => k_is); (case c_is_pair => k_is); (case k_is_pair => k_is); (case a_need_world => k_is)
    (case l_need_world => k_is); (case c_need_world => k_is); (case k_need_world => k_is); (case a_weight => k_is); (case l_weight => k_is); (case c_weight => k_is)
    (case k_weight => k_is); (case a_told_words => k_is); (case l_told_words => k_is); (case c_told_words => k_is); (case k_told_words => k_is); (case a_is_world => k_is)
    (case l_is_world => k_is); (case c_is_world => k_is); (case k_is_world => k_is); (case a_pans => k_is); (case l_pans => k_is); (case c_pans => k_is)
    (case k_pans => k_is); (case a_weighings_at => k_is); (case l_weighings_at => k_is); (case c_weighings_at => k_is); (case k_weighings_at => k_is); (case a_need_steps => k_is)
    (case l_need_steps => k_is); (case c_need_steps => k_is); (case k_need_steps => k_is); (case a_total_at => k_is); (case l_total_at => k_is); (case c_total_at => k_is)
    (case k_total_at => k_is); (case a_parting_at => k_is); (case l_parting_at => k_is); (case c_parting_at => k_is); (case k_parting_at => k_is); (case a_parting => k_is)
    (case l_parting => k_is); (case c_parting => k_is); (case k_parting => k_is); (case w_parting => k_is); (case e_parting => k_is); (case a_alike => k_is)
    (case l_alike => k_is); (case c_alike => k_is); (case k_alike => k_is); (case a__law_next => k_is); (case l__law_next => k_is); (case c__law_next => k_is)
    (case k__law_next => k_is); (case a__law_pick => k_is); (case l__law_pick => k_is); (case c__law_pick => k_is); (case k__law_pick => k_is); (case a__law_names => k_is)
    (case l__law_names => k_is); (case c__law_names => k_is); (case k__law_names => k_is); (case a__law_row => k_is); (case l__law_row => k_is); (case c__law_row => k_is)
    (case k__law_row => k_is); (case a__law_world => k_is); (case l__law_world => k_is); (case c__law_world => k_is); (case k__law_world => k_is); (case a__law_sign => k_is)
    (case l__law_sign => k_is); (case c__law_sign => k_is); (case k__law_sign => k_is); (case a__law_told => k_is); (case l__law_told => k_is); (case c__law_told => k_is)
    (case k__law_told => k_is); (case a__law_up => k_is); (case l__law_up => k_is); (case c__law_up => k_is); (case k__law_up => k_is); (case a__law_marks => k_is)
    (case l__law_marks => k_is); (case c__law_marks => k_is); (case k__law_marks => k_is); (case a__law_turned => k_is); (case l__law_turned => k_is); (case c__law_turned => k_is)
    (case k__law_turned => k_is); (case a__law_near => k_is); (case l__law_near => k_is); (case c__law_near => k_is); (case k__law_near => k_is); (case a__law_two_right => k_is)
    (case l__law_two_right => k_is); (case c__law_two_right => k_is); (case k__law_two_right => k_is); (case a_law => k_is); (case l_law => k_is); (case c_law => k_is)
    (case k_law => k_is)
