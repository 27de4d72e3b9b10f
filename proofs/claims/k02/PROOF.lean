import PyProof.Rows.All
import Wide.All
import OpenK.AllK
import Wide.FinOn
import HandS.ForMost
import HandS.ForExc
import HandS.ExcOwn
import HandS.Evl
import HandS.More
import HandS.DictTup
import HandS.Wide
import HandS.Flow
import HandS.IsInst
import HandS.TupLen
import HandS.Style
import HandS.Deep
import PyProof.DictMoreH
import HandS.Small
import HandS.SortRule
import HandS.Conv
import HandS.Strs
import HandS.Rev
import PySem.Challenge.RW_gapyard_k02_gaps_put_and_taken
set_option Elab.async false
set_option linter.all false
set_option maxRecDepth 100000
set_option maxHeartbeats 4000000
/-! DP: Python values as plain data (D), what a value at a heap stands for (Rp), owned objects (Ow), the state of a frame (SR). -/
namespace DP
open PySem L2

/-- plain data -/
inductive D where
  | non | bl (b : Bool) | int (i : Int) | str (x : Str) | ref (a : Addr)
  | tup (xs : List D) | lst (xs : List D) | sl (xs : List D)
  | dK (ks : List Key) (xs : List D) | dT (ks : List (List Key)) (xs : List D)
  | ins (C : Addr) (fs : List Str) (xs : List D)

abbrev Fg := PySem.W.Frag

mutual
/-- v stands for d in the frozen heap F -/
def Rp (K : Fg) (F : Hp) : D → V → Prop
  | .non, v => v = .non
  | .bl b, v => v = .bl b
  | .int i, v => v = .int i
  | .str x, v => v = .str x
  | .ref a, v => v = .ref a
  | .tup xs, v => ∃ a vs, v = .ref a ∧ F a = some (.tup vs) ∧ RpL K F xs vs
  | .lst xs, v => ∃ a vs, v = .ref a ∧ F a = some (.lst vs) ∧ RpL K F xs vs
  | .sl xs, v => ∃ a vs, v = .ref a ∧ SqL K F a vs ∧ RpL K F xs vs
  | .dK ks xs, v => ∃ a ws, v = .ref a ∧ F a = some (.dK ws) ∧ ws.map (·.1) = ks ∧ RpL K F xs (ws.map (·.2))
  | .dT ks xs, v => ∃ a ws, v = .ref a ∧ F a = some (.dT ws) ∧ ws.map (·.1) = ks ∧ RpL K F xs (ws.map (·.2))
  | .ins C fs xs, v => ∃ a dx ws, v = .ref a ∧ F a = some (.ins C dx ws) ∧ ws.map (·.1) = fs ∧ RpL K F xs (ws.map (·.2))
def RpL (K : Fg) (F : Hp) : List D → List V → Prop
  | [], vs => vs = []
  | x :: xs, vs => ∃ v r, vs = v :: r ∧ Rp K F x v ∧ RpL K F xs r
end

/-- heaps that know more -/
def Ex (H H' : Hp) : Prop := ∀ a o, H a = some o → H' a = some o
theorem Ex.rfl' (H : Hp) : Ex H H := fun _ _ h => h
theorem Ex.tr {H H1 H2 : Hp} (a : Ex H H1) (b : Ex H1 H2) : Ex H H2 := fun x o h => b x o (a x o h)
theorem Ex.new' {H : Hp} {p : Addr} {o : HO} (h : H p = none) : Ex H (upd H p o) := fun a u e => by
  rw [upd_ne (ne_of_none e h)]; exact e
theorem Ex.rd {H H' : Hp} {a : Addr} {u : HO} (e : Ex H H') (h : Rd H a u) : Rd H' a u := by
  rcases h with h | ⟨o, h⟩
  · exact .inl (e a _ h)
  · exact .inr ⟨o, e a _ h⟩
theorem Ex.sqL {K : Fg} {H H' : Hp} {a : Addr} {xs : List V} (e : Ex H H') (h : SqL K H a xs) : SqL K H' a xs := by
  rcases h with h | h
  · exact .inl (e.rd h)
  · exact .inr h
theorem Ex.sqT {K : Fg} {H H' : Hp} {a : Addr} {xs : List V} (e : Ex H H') (h : SqT K H a xs) : SqT K H' a xs := by
  rcases h with h | h
  · exact .inl (e.rd h)
  · exact .inr h
theorem Ex.back {H H' : Hp} (e : Ex H H') {p : Addr} (h : H' p = none) : H p = none := by
  cases q : H p with
  | none => rfl
  | some o => rw [e p o q] at h; cases h

section
variable {K : Fg} {F F' : Hp}
mutual
theorem Rp.mono (e : Ex F F') : ∀ (d : D) (v : V), Rp K F d v → Rp K F' d v
  | .non, _, h => h
  | .bl _, _, h => h
  | .int _, _, h => h
  | .str _, _, h => h
  | .ref _, _, h => h
  | .tup xs, _, ⟨a, vs, h1, h2, h3⟩ => ⟨a, vs, h1, e _ _ h2, RpL.mono e xs vs h3⟩
  | .lst xs, _, ⟨a, vs, h1, h2, h3⟩ => ⟨a, vs, h1, e _ _ h2, RpL.mono e xs vs h3⟩
  | .sl xs, _, ⟨a, vs, h1, h2, h3⟩ => ⟨a, vs, h1, e.sqL h2, RpL.mono e xs vs h3⟩
  | .dK ks xs, _, ⟨a, ws, h1, h2, h3, h4⟩ => ⟨a, ws, h1, e _ _ h2, h3, RpL.mono e xs _ h4⟩
  | .dT ks xs, _, ⟨a, ws, h1, h2, h3, h4⟩ => ⟨a, ws, h1, e _ _ h2, h3, RpL.mono e xs _ h4⟩
  | .ins C fs xs, _, ⟨a, dx, ws, h1, h2, h3, h4⟩ => ⟨a, dx, ws, h1, e _ _ h2, h3, RpL.mono e xs _ h4⟩
theorem RpL.mono (e : Ex F F') : ∀ (ds : List D) (vs : List V), RpL K F ds vs → RpL K F' ds vs
  | [], _, h => h
  | x :: xs, _, ⟨v, r, h1, h2, h3⟩ => ⟨v, r, h1, Rp.mono e x v h2, RpL.mono e xs r h3⟩
end
theorem RpL.len : ∀ {ds : List D} {vs : List V}, RpL K F ds vs → ds.length = vs.length
  | [], _, h => by cases (show _ = [] from h); rfl
  | x :: xs, _, ⟨v, r, h1, h2, h3⟩ => by subst h1; simp [RpL.len h3]
theorem RpL.get : ∀ {ds : List D} {vs : List V} {i : Nat} {d : D}, RpL K F ds vs → ds[i]? = some d → ∃ v, vs[i]? = some v ∧ Rp K F d v
  | [], _, i, d, _, e => by simp at e
  | x :: xs, _, 0, d, ⟨v, r, h1, h2, h3⟩, e => by
    subst h1; simp at e; subst e; exact ⟨v, by simp, h2⟩
  | x :: xs, _, i + 1, d, ⟨v, r, h1, h2, h3⟩, e => by
    subst h1
    obtain ⟨u, q1, q2⟩ := RpL.get (i := i) h3 (by simpa using e)
    exact ⟨u, by simpa using q1, q2⟩
theorem RpL.getV : ∀ {ds : List D} {vs : List V} {i : Nat} {v : V}, RpL K F ds vs → vs[i]? = some v → ∃ d, ds[i]? = some d ∧ Rp K F d v
  | [], _, i, v, h, e => by cases (show _ = [] from h); simp at e
  | x :: xs, _, 0, u, ⟨v, r, h1, h2, h3⟩, e => by
    subst h1; simp at e; subst e; exact ⟨x, by simp, h2⟩
  | x :: xs, _, i + 1, u, ⟨v, r, h1, h2, h3⟩, e => by
    subst h1
    obtain ⟨d, q1, q2⟩ := RpL.getV (i := i) h3 (by simpa using e)
    exact ⟨d, by simpa using q1, q2⟩
theorem RpL.append : ∀ {ds es : List D} {vs ws : List V}, RpL K F ds vs → RpL K F es ws → RpL K F (ds ++ es) (vs ++ ws)
  | [], _, _, _, h, k => by cases (show _ = [] from h); exact k
  | x :: xs, _, _, _, ⟨v, r, h1, h2, h3⟩, k => by subst h1; exact ⟨v, _, rfl, h2, RpL.append h3 k⟩
theorem RpL.take : ∀ (n : Nat) {ds : List D} {vs : List V}, RpL K F ds vs → RpL K F (ds.take n) (vs.take n)
  | 0, _, _, _ => by simp [RpL]
  | n + 1, [], _, h => by cases (show _ = [] from h); simp [RpL]
  | n + 1, x :: xs, _, ⟨v, r, h1, h2, h3⟩ => by subst h1; exact ⟨v, _, rfl, h2, RpL.take n h3⟩
theorem RpL.drop : ∀ (n : Nat) {ds : List D} {vs : List V}, RpL K F ds vs → RpL K F (ds.drop n) (vs.drop n)
  | 0, _, _, h => h
  | n + 1, [], _, h => by cases (show _ = [] from h); simp [RpL]
  | n + 1, x :: xs, _, ⟨v, r, h1, h2, h3⟩ => by subst h1; exact RpL.drop n h3
theorem RpL.set : ∀ (n : Nat) {ds : List D} {vs : List V} {d : D} {v : V}, RpL K F ds vs → Rp K F d v → RpL K F (ds.set n d) (vs.set n v)
  | _, [], _, _, _, h, _ => by cases (show _ = [] from h); simp [RpL]
  | 0, x :: xs, _, _, _, ⟨v, r, h1, h2, h3⟩, k => by subst h1; exact ⟨_, _, rfl, k, h3⟩
  | n + 1, x :: xs, _, _, _, ⟨v, r, h1, h2, h3⟩, k => by subst h1; exact ⟨_, _, rfl, h2, RpL.set n h3 k⟩
theorem RpL.rev {ds : List D} {vs : List V} (h : RpL K F ds vs) : RpL K F ds.reverse vs.reverse := by
  induction ds generalizing vs with
  | nil => cases (show vs = [] from h); simp [RpL]
  | cons x xs ih =>
    obtain ⟨v, r, h1, h2, h3⟩ := h
    subst h1
    rw [List.reverse_cons, List.reverse_cons]
    exact (ih h3).append ⟨v, [], rfl, h2, rfl⟩
theorem RpL.rep {d : D} {v : V} (h : Rp K F d v) : ∀ n, RpL K F (List.replicate n d) (List.replicate n v)
  | 0 => by simp [RpL]
  | n + 1 => ⟨v, _, rfl, h, RpL.rep h n⟩
end

/-! ### owned objects -/
def OwL (R : D → V → List Addr → Prop) : List D → List V → List Addr → Prop
  | [], vs, r => vs = [] ∧ r = []
  | d :: ds, vs, r => ∃ v vr r1 r2, vs = v :: vr ∧ r = r1 ++ r2 ∧ R d v r1 ∧ OwL R ds vr r2
def OwO (R : D → V → List Addr → Prop) : D → HO → List Addr → Prop
  | .lst ds, .lst vs, r => OwL R ds vs r
  | .dK ks ds, .dK ws, r => ws.map (·.1) = ks ∧ OwL R ds (ws.map (·.2)) r
  | .dT ks ds, .dT ws, r => ws.map (·.1) = ks ∧ OwL R ds (ws.map (·.2)) r
  | .ins C fs ds, .ins C' _ ws, r => C' = C ∧ ws.map (·.1) = fs ∧ OwL R ds (ws.map (·.2)) r
  | _, _, _ => False
/-- v stands for d, its first n layers owned, at the addresses fp -/
def Ow (K : Fg) (F H : Hp) : Nat → D → V → List Addr → Prop
  | 0, d, v, fp => fp = [] ∧ Rp K F d v
  | n + 1, d, v, fp => ∃ a o r, v = .ref a ∧ F a = none ∧ H a = some o ∧ fp = a :: r ∧ OwO (Ow K F H n) d o r

/-- the frozen heap and the heap go on: all that was tracked stands, what is frozen anew is new -/
def NT (o : HO) : Prop := ∀ vs, o ≠ .tup vs
structure Gr (F H F' H' : Hp) : Prop where
  ff : Ex F F'
  hh : Ex H H'
  fh : Ex F' H'
  nw : ∀ a o, H a = some o → NT o → F' a = F a
theorem Gr.refl {F H : Hp} (e : Ex F H) : Gr F H F H := ⟨Ex.rfl' _, Ex.rfl' _, e, fun _ _ _ _ => rfl⟩
theorem Gr.trans {F H F1 H1 F2 H2 : Hp} (a : Gr F H F1 H1) (b : Gr F1 H1 F2 H2) : Gr F H F2 H2 :=
  ⟨a.ff.tr b.ff, a.hh.tr b.hh, b.fh, fun x o h n => (b.nw x o (a.hh x o h) n).trans (a.nw x o h n)⟩
/-- a new object is laid, not frozen -/
theorem Gr.own {F H : Hp} {p : Addr} {o : HO} (e : Ex F H) (h : H p = none) : Gr F H F (upd H p o) :=
  ⟨Ex.rfl' _, Ex.new' h, e.tr (Ex.new' h), fun _ _ _ _ => rfl⟩
/-- a new object is laid and frozen -/
theorem Gr.frz {F H : Hp} {p : Addr} {o : HO} (e : Ex F H) (h : H p = none) : Gr F H (upd F p o) (upd H p o) where
  ff := Ex.new' (e.back h)
  hh := Ex.new' h
  fh := fun a u q => by
    by_cases z : a = p
    · subst z; rw [upd_same] at q ⊢; exact q
    · rw [upd_ne z] at q ⊢; exact e a u q
  nw := fun a u q _ => by rw [upd_ne (ne_of_none q h)]

section
variable {K : Fg} {F F' H H' : Hp}
theorem OwL.imp {R R' : D → V → List Addr → Prop} : ∀ {ds : List D} {vs : List V} {r : List Addr}, (∀ d v r, R d v r → R' d v r) → OwL R ds vs r → OwL R' ds vs r
  | [], _, _, _, h => h
  | d :: ds, _, _, f, ⟨v, vr, r1, r2, h1, h2, h3, h4⟩ => ⟨v, vr, r1, r2, h1, h2, f _ _ _ h3, OwL.imp f h4⟩
theorem OwO.imp {R R' : D → V → List Addr → Prop} {d : D} {o : HO} {r : List Addr} (f : ∀ d v r, R d v r → R' d v r) (h : OwO R d o r) : OwO R' d o r := by
  cases d <;> cases o <;> first
    | exact h.elim
    | exact OwL.imp f h
    | exact ⟨h.1, OwL.imp f h.2⟩
    | exact ⟨h.1, h.2.1, OwL.imp f h.2.2⟩
theorem OwL.len {R : D → V → List Addr → Prop} : ∀ {ds : List D} {vs : List V} {r : List Addr}, OwL R ds vs r → ds.length = vs.length
  | [], _, _, h => by rw [h.1]; rfl
  | d :: ds, _, _, ⟨v, vr, r1, r2, h1, h2, h3, h4⟩ => by subst h1; simp [OwL.len h4]
theorem OwO.nt {R : D → V → List Addr → Prop} {d : D} {o : HO} {r : List Addr} (h : OwO R d o r) : NT o := by
  intro vs e
  subst e
  cases d <;> exact h.elim
theorem Ow.mono (g : Gr F H F' H') : ∀ {n : Nat} {d : D} {v : V} {fp : List Addr}, Ow K F H n d v fp → Ow K F' H' n d v fp
  | 0, _, _, _, h => ⟨h.1, Rp.mono g.ff _ _ h.2⟩
  | n + 1, _, _, _, ⟨a, o, r, h1, h2, h3, h4, h5⟩ => ⟨a, o, r, h1, (g.nw a o h3 h5.nt).trans h2, g.hh a o h3, h4, OwO.imp (fun _ _ _ z => Ow.mono g z) h5⟩
/-- every address of fp is owned -/
theorem OwL.fp {R : D → V → List Addr → Prop} {P : Addr → Prop} (f : ∀ d v r, R d v r → ∀ a ∈ r, P a) : ∀ {ds : List D} {vs : List V} {r : List Addr}, OwL R ds vs r → ∀ a ∈ r, P a
  | [], _, _, h, a, m => by rw [h.2] at m; cases m
  | d :: ds, _, _, ⟨v, vr, r1, r2, h1, h2, h3, h4⟩, a, m => by
    subst h2
    rcases List.mem_append.mp m with m | m
    · exact f _ _ _ h3 a m
    · exact OwL.fp f h4 a m
theorem OwO.fp {R : D → V → List Addr → Prop} {P : Addr → Prop} {d : D} {o : HO} {r : List Addr} (f : ∀ d v r, R d v r → ∀ a ∈ r, P a) (h : OwO R d o r) : ∀ a ∈ r, P a := by
  cases d <;> cases o <;> first
    | exact h.elim
    | exact OwL.fp f h
    | exact OwL.fp f h.2
    | exact OwL.fp f h.2.2
theorem Ow.fp : ∀ {n : Nat} {d : D} {v : V} {fp : List Addr}, Ow K F H n d v fp → ∀ a ∈ fp, F a = none ∧ ∃ o, H a = some o
  | 0, _, _, _, h, a, m => by rw [h.1] at m; cases m
  | n + 1, _, _, _, ⟨b, o, r, h1, h2, h3, h4, h5⟩, a, m => by
    subst h4
    rcases List.mem_cons.mp m with m | m
    · subst m; exact ⟨h2, o, h3⟩
    · exact OwO.fp (fun _ _ _ z => Ow.fp z) h5 a m
/-- one layer owned: the items are frozen -/
theorem OwL.one : ∀ {ds : List D} {vs : List V} {r : List Addr}, OwL (Ow K F H 0) ds vs r → r = [] ∧ RpL K F ds vs
  | [], _, _, h => ⟨h.2, h.1⟩
  | d :: ds, _, _, ⟨v, vr, r1, r2, h1, h2, h3, h4⟩ => by
    obtain ⟨e1, q1⟩ := h3
    obtain ⟨e2, q2⟩ := OwL.one h4
    subst e1 e2 h1
    exact ⟨h2, v, vr, rfl, q1, q2⟩
theorem OwL.of : ∀ {ds : List D} {vs : List V}, RpL K F ds vs → OwL (Ow K F H 0) ds vs []
  | [], _, h => ⟨h, rfl⟩
  | d :: ds, _, ⟨v, r, h1, h2, h3⟩ => ⟨v, r, [], [], h1, rfl, ⟨rfl, h2⟩, OwL.of h3⟩
theorem Ow.z {d : D} {v : V} (h : Rp K F d v) : Ow K F H 0 d v [] := ⟨rfl, h⟩
theorem Ow.lst1 {ds : List D} {vs : List V} {a : Addr} (h : RpL K F ds vs) (hf : F a = none) (hh : H a = some (.lst vs)) : Ow K F H 1 (.lst ds) (.ref a) [a] :=
  ⟨a, _, [], rfl, hf, hh, rfl, OwL.of h⟩

/-! ### freezing -/
/-- F with the heap's objects at fp -/
def frz (F H : Hp) (fp : List Addr) : Hp := fun a => if a ∈ fp then H a else F a
theorem frz_in {fp : List Addr} {a : Addr} (h : a ∈ fp) : frz F H fp a = H a := if_pos h
theorem frz_out {fp : List Addr} {a : Addr} (h : a ∉ fp) : frz F H fp a = F a := if_neg h
theorem frz_ex {fp : List Addr} (h : ∀ a ∈ fp, F a = none) : Ex F (frz F H fp) := fun a o e => by
  rw [frz_out fun m => by rw [h a m] at e; cases e]; exact e
theorem frz_fh {fp : List Addr} (h : Ex F H) : Ex (frz F H fp) H := fun a o e => by
  by_cases m : a ∈ fp
  · rw [frz_in m] at e; exact e
  · rw [frz_out m] at e; exact h a o e
mutual
theorem Ow.frozen {G : Hp} (e : Ex F G) : ∀ {n : Nat} {d : D} {v : V} {fp : List Addr}, (∀ a ∈ fp, G a = H a) → Ow K F H n d v fp → Rp K G d v
  | 0, d, v, _, _, h => Rp.mono e d v h.2
  | n + 1, d, v, _, q, ⟨a, o, r, h1, h2, h3, h4, h5⟩ => by
    subst h4
    have ga : G a = some o := (q a List.mem_cons_self).trans h3
    have q' : ∀ b ∈ r, G b = H b := fun b m => q b (List.mem_cons_of_mem _ m)
    cases d <;> cases o <;> first
      | exact h5.elim
      | exact ⟨a, _, h1, ga, OwL.frozen e q' h5⟩
      | exact ⟨a, _, h1, ga, h5.1, OwL.frozen e q' h5.2⟩
      | (obtain ⟨e1, e2, h5⟩ := h5; subst e1; exact ⟨a, _, _, h1, ga, e2, OwL.frozen e q' h5⟩)
theorem OwL.frozen {G : Hp} (e : Ex F G) : ∀ {n : Nat} {ds : List D} {vs : List V} {r : List Addr}, (∀ a ∈ r, G a = H a) → OwL (Ow K F H n) ds vs r → RpL K G ds vs
  | n, [], vs, r, _, h => h.1
  | n, d :: ds, _, _, q, ⟨v, vr, r1, r2, h1, h2, h3, h4⟩ => by
    subst h2
    exact ⟨v, vr, h1, Ow.frozen e (fun a m => q a (List.mem_append_left _ m)) h3, OwL.frozen e (fun a m => q a (List.mem_append_right _ m)) h4⟩
end
end
end DP
/-! DP: the frame's state, readings by functions of the state. -/
namespace DP
open PySem L2

/-- an exception as data: its class, one field -/
abbrev Sv := Nat × D
structure XD where
  cls : Addr
  fld : Option (Str × Sv)
abbrev Env := List (Option Sv)
abbrev M (α : Type) := Option (Except XD α)
@[reducible] def M.ok {α : Type} (a : α) : M α := some (.ok a)
@[reducible] def M.er {α : Type} (e : XD) : M α := some (.error e)
@[reducible] def M.no {α : Type} : M α := none
def bd {α β : Type} (x : M α) (f : α → M β) : M β := match x with
  | none => none
  | some (.error e) => some (.error e)
  | some (.ok a) => f a
theorem bd_ok {α β : Type} (a : α) (f : α → M β) : bd (M.ok a) f = f a := rfl
theorem bd_er {α β : Type} (e : XD) (f : α → M β) : bd (M.er e) f = M.er e := rfl
theorem bd_no {α β : Type} (f : α → M β) : bd (none : M α) f = none := rfl
def lf {α : Type} (x : Option α) : M α := x.map .ok
theorem lf_ok {α : Type} {x : Option α} {r : Except XD α} (h : lf x = some r) : ∃ a, x = some a ∧ r = .ok a := by
  cases x with
  | none => cases h
  | some a => exact ⟨a, rfl, (Option.some.inj h).symm⟩

structure SR (K : Fg) (F0 H0 F H : Hp) (σ : St) (env : Env) : Prop where
  g : Gr F0 H0 F H
  len : env.length = σ.length
  ex : ∃ fp : Nat → List Addr, (∀ i n d, env[i]? = some (some (n, d)) → ∃ v, σ[i]? = some (some v) ∧ Ow K F H n d v (fp i)) ∧
    (∀ i, (fp i).Nodup) ∧ (∀ i j a, a ∈ fp i → a ∈ fp j → i = j) ∧ ∀ i a, a ∈ fp i → H0 a = none

section
variable {K : Fg} {F0 H0 F H F' H' : Hp} {σ : St} {env : Env}
theorem SR.fh (s : SR K F0 H0 F H σ env) : Ex F H := s.g.fh
theorem SR.on (s : SR K F0 H0 F H σ env) (g : Gr F H F' H') : SR K F0 H0 F' H' σ env := by
  obtain ⟨fp, h1, h2, h3, h4⟩ := s.ex
  exact ⟨s.g.trans g, s.len, fp, fun i n d e => let ⟨v, q1, q2⟩ := h1 i n d e; ⟨v, q1, q2.mono g⟩, h2, h3, h4⟩
/-- a slot is stored -/
theorem SR.set (s : SR K F0 H0 F H σ env) {i : Nat} {n : Nat} {d : D} {v : V} {F' H' : Hp} {fp : List Addr} (g : Gr F H F' H') (o : Ow K F' H' n d v fp) (nd : fp.Nodup) (nw : ∀ a ∈ fp, H a = none) : SR K F0 H0 F' H' (σ.set i (some v)) (env.set i (some (n, d))) := by
  obtain ⟨fq, h1, h2, h3, h4⟩ := (s.on g).ex
  obtain ⟨fq0, k1, _, _, _⟩ := s.ex
  -- the old footprints, none of them for slots without a value
  have old : ∃ fr : Nat → List Addr, (∀ j n d, env[j]? = some (some (n, d)) → ∃ v, σ[j]? = some (some v) ∧ Ow K F H n d v (fr j)) ∧ (∀ j, (fr j).Nodup) ∧ (∀ j k a, a ∈ fr j → a ∈ fr k → j = k) ∧ (∀ j a, a ∈ fr j → H0 a = none) ∧ ∀ j a, a ∈ fr j → H a ≠ none := by
    obtain ⟨fr, q1, q2, q3, q4⟩ := s.ex
    refine ⟨fun j => match env[j]? with | some (some _) => fr j | _ => [], ?_, ?_, ?_, ?_, ?_⟩
    · intro j n d e
      dsimp only
      rw [e]; exact q1 j n d e
    · intro j
      show List.Nodup (match env[j]? with | some (some _) => fr j | _ => [])
      split
      · exact q2 j
      · exact List.nodup_nil
    · intro j k a ha hb
      have ha' : a ∈ fr j := by
        revert ha
        show a ∈ (match env[j]? with | some (some _) => fr j | _ => []) → _
        split
        · exact id
        · intro z; cases z
      have hb' : a ∈ fr k := by
        revert hb
        show a ∈ (match env[k]? with | some (some _) => fr k | _ => []) → _
        split
        · exact id
        · intro z; cases z
      exact q3 j k a ha' hb'
    · intro j a ha
      have ha' : a ∈ fr j := by
        revert ha
        show a ∈ (match env[j]? with | some (some _) => fr j | _ => []) → _
        split
        · exact id
        · intro z; cases z
      exact q4 j a ha'
    · intro j a ha
      revert ha
      show a ∈ (match env[j]? with | some (some _) => fr j | _ => []) → _
      split
      · rename_i x e
        obtain ⟨m, d'⟩ := x
        intro ha
        obtain ⟨v', _, ow⟩ := q1 j m d' e
        obtain ⟨_, o', ho⟩ := ow.fp a ha
        rw [ho]; exact fun z => by cases z
      · intro z; cases z
  obtain ⟨fr, q1, q2, q3, q4, q5⟩ := old
  refine ⟨s.g.trans g, by simpa using s.len, fun j => if j = i then fp else fr j, ?_, ?_, ?_, ?_⟩
  · intro j m d' e
    dsimp only
    by_cases hj : j = i
    · subst hj
      rw [if_pos rfl]
      by_cases hl : j < env.length
      · rw [List.getElem?_set_self hl] at e
        cases e
        exact ⟨v, by rw [List.getElem?_set_self (by rw [← s.len]; exact hl)], o⟩
      · rw [List.getElem?_eq_none (by simpa using hl)] at e; cases e
    · rw [if_neg hj]
      rw [List.getElem?_set_ne (Ne.symm hj)] at e
      obtain ⟨u, e1, e2⟩ := q1 j m d' e
      exact ⟨u, by rw [List.getElem?_set_ne (Ne.symm hj)]; exact e1, e2.mono g⟩
  · intro j
    by_cases hj : j = i
    · simp only [hj, if_pos]; exact nd
    · simp only [if_neg hj]; exact q2 j
  · intro j k a ha hb
    by_cases hj : j = i
    · by_cases hk : k = i
      · rw [hj, hk]
      · simp only [hj, if_pos] at ha
        simp only [if_neg hk] at hb
        exact absurd (nw a ha) (q5 k a hb)
    · by_cases hk : k = i
      · simp only [if_neg hj] at ha
        simp only [hk, if_pos] at hb
        exact absurd (nw a hb) (q5 j a ha)
      · simp only [if_neg hj] at ha
        simp only [if_neg hk] at hb
        exact q3 j k a ha hb
  · intro j a ha
    by_cases hj : j = i
    · simp only [hj, if_pos] at ha
      exact s.g.hh.back (nw a ha)
    · simp only [if_neg hj] at ha
      exact q4 j a ha
/-- fewer slots are known -/
theorem SR.less (s : SR K F0 H0 F H σ env) {env' : Env} (hl : env'.length = env.length) (h : ∀ (i : Nat) (x : Sv), env'[i]? = some (some x) → env[i]? = some (some x)) : SR K F0 H0 F H σ env' := by
  obtain ⟨fp, h1, h2, h3, h4⟩ := s.ex
  exact ⟨s.g, hl.trans s.len, fp, fun i n d e => h1 i n d (h i _ e), h2, h3, h4⟩
end

/-- how an exception stands for data -/
def ExR (K : Fg) (H0 F H : Hp) (cls : Value) (dd : Option Addr) (e : XD) : Prop :=
  cls = .ref e.cls ∧ match e.fld with
    | none => True
    | some (f, x) => ∃ p v fp, dd = some p ∧ H0 p = none ∧ H p = some (.xd [(f, v)]) ∧ Ow K F H x.1 x.2 v fp ∧ fp.Nodup ∧ ∀ a ∈ fp, H0 a = none
theorem ExR.on {K : Fg} {H0 H1 F H : Hp} {cls : Value} {dd : Option Addr} {e : XD} (h : ExR K H1 F H cls dd e) (x : Ex H0 H1) : ExR K H0 F H cls dd e := by
  obtain ⟨c, f⟩ := e
  refine ⟨h.1, ?_⟩
  cases f with
  | none => trivial
  | some q =>
    obtain ⟨p, v, fp, h1, h2, h3, h4, h5, h6⟩ := h.2
    exact ⟨p, v, fp, h1, x.back h2, h3, h4, h5, fun a m => x.back (h6 a m)⟩

def EvOk (K : Fg) (F H : Hp) (Q : VK) (x : Sv) : Prop := ∀ v F' H' fp, Gr F H F' H' → Ow K F' H' x.1 x.2 v fp → fp.Nodup → (∀ a ∈ fp, H a = none) → Q v H'
def EvWk (K : Fg) (F H : Hp) (Q : VK) (x : Sv) : Prop := ∀ v F' H' fp, Gr F H F' H' → Ow K F' H' x.1 x.2 v fp → Q v H'
def ExOk (K : Fg) (F H : Hp) (W : WX) (σ : St) (e : XD) : Prop := ∀ cls dd F' H', Gr F H F' H' → ExR K H F' H' cls dd e → W cls dd σ H'

/-- an expression's value by a function of the state -/
def tD (K : Fg) (W : WX) (f : Env → M Sv) : TE := fun σ H Q => ∃ F0 H0 F env, SR K F0 H0 F H σ env ∧ ((∃ x, f env = M.ok x ∧ EvOk K F H Q x) ∨ ∃ e, f env = M.er e ∧ ExOk K F H W σ e)
def tW (K : Fg) (W : WX) (f : Env → M Sv) : TE := fun σ H Q => ∃ F0 H0 F env, SR K F0 H0 F H σ env ∧ ((∃ x, f env = M.ok x ∧ EvWk K F H Q x) ∨ ∃ e, f env = M.er e ∧ ExOk K F H W σ e)
/-- a test -/
def tB' (K : Fg) (W : WX) (f : Env → M Bool) : TT := fun σ H Q => ∃ F0 H0 F env, SR K F0 H0 F H σ env ∧ ((∃ b, f env = M.ok b ∧ ∀ F' H', Gr F H F' H' → Q b H') ∨ ∃ e, f env = M.er e ∧ ExOk K F H W σ e)
/-- arguments: each frozen or owned anew -/
def Al (K : Fg) (F H : Hp) : List Sv → List V → List Addr → Prop
  | [], vs, fp => vs = [] ∧ fp = []
  | x :: xs, vs, fp => ∃ v r f1 f2, vs = v :: r ∧ fp = f1 ++ f2 ∧ Ow K F H x.1 x.2 v f1 ∧ Al K F H xs r f2
def tA (K : Fg) (W : WX) (f : Env → M (List Sv)) : TA := fun σ H Q => ∃ F0 H0 F env, SR K F0 H0 F H σ env ∧ ((∃ xs, f env = M.ok xs ∧ ∀ vs F' H' fp, Gr F H F' H' → Al K F' H' xs vs fp → fp.Nodup → (∀ a ∈ fp, H a = none) → Q vs H') ∨ ∃ e, f env = M.er e ∧ ExOk K F H W σ e)
/-- arguments of any kind -/
def tAw (K : Fg) (W : WX) (f : Env → M (List Sv)) : TA := fun σ H Q => ∃ F0 H0 F env, SR K F0 H0 F H σ env ∧ ((∃ xs, f env = M.ok xs ∧ ∀ vs F' H' fp, Gr F H F' H' → Al K F' H' xs vs fp → Q vs H') ∨ ∃ e, f env = M.er e ∧ ExOk K F H W σ e)

theorem PE.imp {X : Cx} {e : Expr} {t t' : TE} (h : PE X e t) (k : ∀ σ H Q, t' σ H Q → t σ H Q) : PE X e t' := ⟨fun pins s σ H Q I q => h.run pins s σ H Q I (k σ H Q q)⟩
theorem PT.imp {X : Cx} {e : Expr} {t t' : TT} (h : PT X e t) (k : ∀ σ H Q, t' σ H Q → t σ H Q) : PT X e t' := ⟨fun pins s σ H Q I q => h.run pins s σ H Q I (k σ H Q q)⟩
theorem PW.imp {X : Cx} {e : Expr} {t t' : TT} (h : PW X e t) (k : ∀ σ H Q, t' σ H Q → t σ H Q) : PW X e t' := ⟨fun wh pins s σ H Q I q => h.run wh pins s σ H Q I (k σ H Q q)⟩
theorem PA.imp {X : Cx} {es : List Expr} {t t' : TA} (h : PA X es t) (k : ∀ σ H Q, t' σ H Q → t σ H Q) : PA X es t' := ⟨fun pos pins s σ H Q I q => h.run pos pins s σ H Q I (k σ H Q q)⟩
theorem PS.imp {X : Cx} {e : Stmt} {t t' : TS} (h : PS X e t) (k : ∀ D σ H, t' D σ H → t D σ H) : PS X e t' := ⟨fun pins s σ H D I q => h.run pins s σ H D I (k D σ H q)⟩
theorem PSs.imp {X : Cx} {e : List Stmt} {t t' : TS} (h : PSs X e t) (k : ∀ D σ H, t' D σ H → t D σ H) : PSs X e t' := ⟨fun pins s σ H D I q => h.run pins s σ H D I (k D σ H q)⟩
theorem PI.imp {X : Cx} {tg e : Expr} {t t' : TI} (h : PI X tg e t) (k : ∀ σ H R, t' σ H R → t σ H R) : PI X tg e t' := ⟨fun pins s σ H R I q => h.run pins s σ H R I (k σ H R q)⟩

section
variable {X : Cx} {K : Fg} {W : WX} {e a b c : Expr} {f g h : Env → M Sv} {F0 H0 F H : Hp} {σ : St} {env : Env} {Q : VK}
/-- reading on from a state -/
theorem tD.go (s : SR K F0 H0 F H σ env) {x : Sv} (e : f env = M.ok x) (k : EvOk K F H Q x) : tD K W f σ H Q := ⟨F0, H0, F, env, s, .inl ⟨x, e, k⟩⟩
theorem tW.go (s : SR K F0 H0 F H σ env) {x : Sv} (e : f env = M.ok x) (k : EvWk K F H Q x) : tW K W f σ H Q := ⟨F0, H0, F, env, s, .inl ⟨x, e, k⟩⟩
theorem tD.ex (s : SR K F0 H0 F H σ env) {x : XD} (e : f env = M.er x) (k : ExOk K F H W σ x) : tD K W f σ H Q := ⟨F0, H0, F, env, s, .inr ⟨x, e, k⟩⟩
theorem tW.ex (s : SR K F0 H0 F H σ env) {x : XD} (e : f env = M.er x) (k : ExOk K F H W σ x) : tW K W f σ H Q := ⟨F0, H0, F, env, s, .inr ⟨x, e, k⟩⟩
theorem ExOk.on {F' H' : Hp} {x : XD} (k : ExOk K F H W σ x) (g : Gr F H F' H') : ExOk K F' H' W σ x := fun cls dd F2 H2 g2 r => k cls dd F2 H2 (g.trans g2) (r.on g.hh)
theorem EvWk.ok {x : Sv} (k : EvWk K F H Q x) : EvOk K F H Q x := fun v F' H' fp g o _ _ => k v F' H' fp g o
theorem EvOk.on {F' H' : Hp} {x : Sv} (k : EvOk K F H Q x) (g : Gr F H F' H') : EvOk K F' H' Q x := fun v F2 H2 fp g2 o nd nw => k v F2 H2 fp (g.trans g2) o nd fun a m => g.hh.back (nw a m)
theorem EvWk.on {F' H' : Hp} {x : Sv} (k : EvWk K F H Q x) (g : Gr F H F' H') : EvWk K F' H' Q x := fun v F2 H2 fp g2 o => k v F2 H2 fp (g.trans g2) o
/-- a value that is frozen -/
theorem EvOk.z {d : D} {v : V} {F' H' : Hp} (k : EvOk K F H Q (0, d)) (g : Gr F H F' H') (r : Rp K F' d v) : Q v H' := k v F' H' [] g ⟨rfl, r⟩ List.nodup_nil fun _ m => by cases m

/-- what stands first in a bind -/
theorem bd_cases {α β : Type} {x : M α} {k : α → M β} {r : Except XD β} (h : bd x k = some r) : (∃ a, x = M.ok a ∧ k a = some r) ∨ ∃ e, x = M.er e ∧ r = .error e := by
  cases x with
  | none => cases h
  | some y =>
    cases y with
    | error e => exact .inr ⟨e, rfl, (Option.some.inj h).symm⟩
    | ok a => exact .inl ⟨a, rfl, h⟩
/-- an outcome, good or an exception -/
def Out {α : Type} (m : M α) (A : α → Prop) (B : XD → Prop) : Prop := (∃ x, m = M.ok x ∧ A x) ∨ ∃ e, m = M.er e ∧ B e
theorem Out.bd {α β : Type} {x : M α} {k : α → M β} {A : β → Prop} {B : XD → Prop} (h : Out (bd x k) A B) : Out x (fun a => Out (k a) A B) B := by
  rcases h with ⟨y, e, q⟩ | ⟨y, e, q⟩
  · rcases bd_cases e with ⟨a, e1, e2⟩ | ⟨z, _, e2⟩
    · exact .inl ⟨a, e1, .inl ⟨y, e2, q⟩⟩
    · cases e2
  · rcases bd_cases e with ⟨a, e1, e2⟩ | ⟨z, e1, e2⟩
    · exact .inl ⟨a, e1, .inr ⟨y, e2, q⟩⟩
    · cases e2; exact .inr ⟨y, e1, q⟩
theorem Out.imp {α : Type} {m : M α} {A A' : α → Prop} {B B' : XD → Prop} (h : Out m A B) (k1 : ∀ x, A x → A' x) (k2 : ∀ e, B e → B' e) : Out m A' B' := by
  rcases h with ⟨y, e, q⟩ | ⟨y, e, q⟩
  · exact .inl ⟨y, e, k1 _ q⟩
  · exact .inr ⟨y, e, k2 _ q⟩
theorem Out.ok {α : Type} {m : M α} {a : α} {A : α → Prop} {B : XD → Prop} (h : Out m A B) (e : m = M.ok a) : A a := by
  rcases h with ⟨y, e', q⟩ | ⟨y, e', q⟩
  · rw [e] at e'
    have z : a = y := Except.ok.inj (Option.some.inj e')
    rw [z]; exact q
  · rw [e] at e'; cases (Option.some.inj e')
theorem tD.out (s : SR K F0 H0 F H σ env) (o : Out (f env) (EvOk K F H Q) (ExOk K F H W σ)) : tD K W f σ H Q := ⟨F0, H0, F, env, s, o⟩
theorem tW.out (s : SR K F0 H0 F H σ env) (o : Out (f env) (EvWk K F H Q) (ExOk K F H W σ)) : tW K W f σ H Q := ⟨F0, H0, F, env, s, o⟩
theorem tB'.out {f : Env → M Bool} {Q : Bool → Hp → Prop} (s : SR K F0 H0 F H σ env) (o : Out (f env) (fun b => ∀ F' H', Gr F H F' H' → Q b H') (ExOk K F H W σ)) : tB' K W f σ H Q := ⟨F0, H0, F, env, s, o⟩

theorem pd_w (p : PE X e (tD K W f)) : PE X e (tW K W f) := PE.imp p fun σ H Q ⟨F0, H0, F, env, s, o⟩ => tD.out s (Out.imp o (fun _ k => EvWk.ok k) fun _ k => k)

/-! ### names, constants -/
def vl (v : Option (Option Sv)) : M Sv := match v with
  | some (some x) => M.ok x
  | _ => none
theorem vl_ok {v : Option (Option Sv)} {x : Sv} (h : vl v = M.ok x) : v = some (some x) := by
  rcases v with _ | _ | y
  · cases (show (none : M Sv) = M.ok x from h)
  · cases (show (none : M Sv) = M.ok x from h)
  · rw [Except.ok.inj (Option.some.inj (show M.ok y = M.ok x from h))]
theorem vl_er {v : Option (Option Sv)} {x : XD} (h : vl v = M.er x) : False := by
  rcases v with _ | _ | y
  · cases (show (none : M Sv) = M.er x from h)
  · cases (show (none : M Sv) = M.er x from h)
  · cases (Option.some.inj (show M.ok y = M.er x from h))
/-- a name that is frozen; of any kind -/
def fVar (i : Nat) (env : Env) : M Sv := bd (vl (env[i]?)) fun x => if x.1 = 0 then M.ok x else none
def fVarW (i : Nat) (env : Env) : M Sv := vl (env[i]?)
theorem pd_varW {i : Nat} {x : Str} {pos : Pos} (p : PE X (.Name x pos) (tVar i)) : PE X (.Name x pos) (tW K W (fVarW i)) := PE.imp p fun σ H Q ⟨F0, H0, F, env, s, o⟩ => by
  rcases o with ⟨y, e, k⟩ | ⟨y, e, k⟩
  · obtain ⟨fp, h1, _⟩ := s.ex
    obtain ⟨n, d⟩ := y
    obtain ⟨v, q1, q2⟩ := h1 i n d (vl_ok e)
    exact ⟨v, q1, k v F H _ (Gr.refl s.fh) q2⟩
  · exact (vl_er e).elim
theorem pd_var {i : Nat} {x : Str} {pos : Pos} (p : PE X (.Name x pos) (tVar i)) : PE X (.Name x pos) (tD K W (fVar i)) := PE.imp p fun σ H Q ⟨F0, H0, F, env, s, o⟩ => by
  have o : Out (fVar i env) (EvOk K F H Q) (ExOk K F H W σ) := o
  unfold fVar at o
  rcases o.bd with ⟨y, e, o2⟩ | ⟨y, e, _⟩
  · obtain ⟨n, d⟩ := y
    obtain ⟨fp, h1, _⟩ := s.ex
    obtain ⟨v, q1, q2⟩ := h1 i n d (vl_ok e)
    by_cases hn : n = 0
    · subst hn
      have k := o2.ok (a := (0, d)) (by simp)
      exact ⟨v, q1, k v F H _ (Gr.refl s.fh) q2 (by rw [q2.1]; exact List.nodup_nil) (by rw [q2.1]; intro _ m; cases m)⟩
    · have z : (if (n, d).1 = 0 then M.ok (n, d) else none : M Sv) = none := if_neg hn
      rw [z] at o2
      rcases o2 with ⟨_, q, _⟩ | ⟨_, q, _⟩ <;> cases q
  · exact (vl_er e).elim
/-- a constant, by its plain rule -/
theorem pd_c {v : V} {d : D} (p : PE X e (tC v)) (r : ∀ F, Rp K F d v) : PE X e (tD K W fun _ => M.ok (0, d)) := PE.imp p fun σ H Q ⟨F0, H0, F, env, s, o⟩ => (Out.ok o rfl).z (Gr.refl s.fh) (r F)
theorem pd_int {i j pos} : PE X (.Constant (.int i) j pos) (tD K W fun _ => M.ok (0, .int i)) := pd_c pe_int fun _ => rfl
theorem pd_bl {b j pos} : PE X (.Constant (.bool b) j pos) (tD K W fun _ => M.ok (0, .bl b)) := pd_c pe_bl fun _ => rfl
theorem pd_non {j pos} : PE X (.Constant .none j pos) (tD K W fun _ => M.ok (0, .non)) := pd_c pe_non fun _ => rfl
theorem pd_str {x j pos} : PE X (.Constant (.str x) j pos) (tD K W fun _ => M.ok (0, .str x)) := pd_c pe_str fun _ => rfl

/-! ### two operands -/
/-- what an operation does to values that stand for data -/
def VR2 (K : Fg) (r : R2) (op : Sv → Sv → Option Sv) : Prop := ∀ (F H : Hp) (x y : V) (p q : Sv) (fp fq : List Addr) (z : Sv) (Q : VK), Ex F H → Ow K F H p.1 p.2 x fp → Ow K F H q.1 q.2 y fq → op p q = some z → EvOk K F H Q z → r x y H Q
def f2 (op : Sv → Sv → Option Sv) (f g : Env → M Sv) : Env → M Sv := fun env => bd (f env) fun x => bd (g env) fun y => lf (op x y)
theorem Out.lf {α : Type} {x : Option α} {A : α → Prop} {B : XD → Prop} (o : Out (lf x) A B) : ∃ a, x = some a ∧ A a := by
  rcases o with ⟨y, e, q⟩ | ⟨y, e, q⟩
  · obtain ⟨a, e1, e2⟩ := lf_ok e
    cases e2
    exact ⟨_, e1, q⟩
  · obtain ⟨a, e1, e2⟩ := lf_ok e
    cases e2
theorem t2_of {r : R2} {op : Sv → Sv → Option Sv} (v : VR2 K r op) {σ : St} {H : Hp} {Q : VK} (t : tD K W (f2 op f g) σ H Q) : tOp r (tW K W f) (tW K W g) σ H Q := by
  obtain ⟨F0, H0, F, env, s, o⟩ := t
  have o : Out (f2 op f g env) (EvOk K F H Q) (ExOk K F H W σ) := o
  refine tW.out s (Out.imp o.bd (fun x ox => ?_) fun _ k => k)
  intro v1 F1 H1 fp g1 w1
  refine tW.out (s.on g1) (Out.imp ox.bd (fun y oy => ?_) fun _ k => k.on g1)
  intro v2 F2 H2 fq g2 w2
  obtain ⟨z, ez, kz⟩ := oy.lf
  exact v F2 H2 v1 v2 x y fp fq z Q g2.fh (w1.mono g2) w2 ez (kz.on (g1.trans g2))
theorem pd_op {op : Operator} {r : R2} {fn : Sv → Sv → Option Sv} {pos : Pos} (ho : OpR X (binaryOp op) r) (v : VR2 K r fn) (ha : PE X a (tW K W f)) (hb : PE X b (tW K W g)) : PE X (.BinOp a op b pos) (tD K W (f2 fn f g)) :=
  PE.imp (pe_op ho ha hb) fun _ _ _ t => t2_of v t
theorem pd_cmp {op : CmpOp} {r : R2} {fn : Sv → Sv → Option Sv} {pos : Pos} (ho : OpR X (compareOp op) r) (v : VR2 K r fn) (ha : PE X a (tW K W f)) (hb : PE X b (tW K W g)) (hm : behindInMarks op b = false) : PE X (.Compare a [op] [b] pos) (tD K W (f2 fn f g)) :=
  PE.imp (pe_cmpR ho ha hb hm) fun _ _ _ t => t2_of v t
theorem VR2.or {r r' : R2} {op op' : Sv → Sv → Option Sv} (v : VR2 K r op) (v' : VR2 K r' op') : VR2 K (fun x y H Q => r x y H Q ∨ r' x y H Q) (fun p q => (op p q).or (op' p q)) := by
  intro F H x y p q fp fq z Q e w1 w2 h k
  dsimp only at h ⊢
  cases q1 : op p q with
  | some u =>
    rw [q1] at h
    have : u = z := Option.some.inj h
    subst this
    exact .inl (v F H x y p q fp fq _ Q e w1 w2 q1 k)
  | none =>
    rw [q1] at h
    exact .inr (v' F H x y p q fp fq _ Q e w1 w2 h k)
/-- flat results -/
theorem EvOk.fl {d : D} {v : V} (k : EvOk K F H Q (0, d)) (e : Ex F H) (r : Rp K F d v) : Q v H := k.z (Gr.refl e) r
theorem Ow.int {n : Nat} {i : Int} {v : V} {fp : List Addr} (h : Ow K F H n (.int i) v fp) : v = .int i := by
  cases n with
  | zero => exact h.2
  | succ n => obtain ⟨a, o, r, _, _, _, _, h5⟩ := h; cases o <;> exact h5.elim
theorem Ow.str {n : Nat} {x : Str} {v : V} {fp : List Addr} (h : Ow K F H n (.str x) v fp) : v = .str x := by
  cases n with
  | zero => exact h.2
  | succ n => obtain ⟨a, o, r, _, _, _, _, h5⟩ := h; cases o <;> exact h5.elim
theorem Ow.bl {n : Nat} {b : Bool} {v : V} {fp : List Addr} (h : Ow K F H n (.bl b) v fp) : v = .bl b := by
  cases n with
  | zero => exact h.2
  | succ n => obtain ⟨a, o, r, _, _, _, _, h5⟩ := h; cases o <;> exact h5.elim
theorem Ow.non {n : Nat} {v : V} {fp : List Addr} (h : Ow K F H n .non v fp) : v = .non := by
  cases n with
  | zero => exact h.2
  | succ n => obtain ⟨a, o, r, _, _, _, _, h5⟩ := h; cases o <;> exact h5.elim
/-- ints in, one value out -/
def oI (C : Int → Int → Bool) (fn : Int → Int → D) : Sv → Sv → Option Sv := fun p q => match p.2, q.2 with
  | .int i, .int j => if C i j then some (0, fn i j) else none
  | _, _ => none
theorem oI_some {C : Int → Int → Bool} {fn : Int → Int → D} {p q z : Sv} (h : oI C fn p q = some z) : ∃ i j, p.2 = .int i ∧ q.2 = .int j ∧ C i j = true ∧ z = (0, fn i j) := by
  obtain ⟨n, d⟩ := p
  obtain ⟨m, d'⟩ := q
  unfold oI at h
  split at h
  · rename_i i j e1 e2
    split at h
    · rename_i hc
      exact ⟨i, j, e1, e2, hc, (Option.some.inj h).symm⟩
    · cases h
  · cases h
theorem vI {C : Int → Int → Prop} {c : Int → Int → Bool} {fv : Int → Int → V} {fn : Int → Int → D} (hc : ∀ i j, c i j = true → C i j) (hr : ∀ F i j, Rp K F (fn i j) (fv i j)) : VR2 K (rI C fv) (oI c fn) := by
  intro F H x y p q fp fq z Q e w1 w2 h k
  obtain ⟨i, j, e1, e2, h1, rfl⟩ := oI_some h
  rw [e1] at w1
  rw [e2] at w2
  exact ⟨i, j, w1.int, w2.int, hc i j h1, k.fl e (hr F i j)⟩
theorem vI0 {fv : Int → Int → V} {fn : Int → Int → D} (hr : ∀ F i j, Rp K F (fn i j) (fv i j)) : VR2 K (rI0 fv) (oI (fun _ _ => true) fn) := by
  intro F H x y p q fp fq z Q e w1 w2 h k
  obtain ⟨i, j, e1, e2, h1, rfl⟩ := oI_some h
  rw [e1] at w1
  rw [e2] at w2
  exact ⟨i, j, w1.int, w2.int, k.fl e (hr F i j)⟩
end
end DP
/-! DP: operations on data. -/
namespace DP
open PySem L2
section
variable {K : Fg} {F H : Hp} {Q : VK} {X : Cx}

/-! ### lists and tuples as operands -/
theorem Ow.lst {n : Nat} {ds : List D} {v : V} {fp : List Addr} (e : Ex F H) (h : Ow K F H n (.lst ds) v fp) (hn : n ≤ 1) : ∃ a vs, v = .ref a ∧ H a = some (.lst vs) ∧ RpL K F ds vs := by
  cases n with
  | zero => obtain ⟨_, a, vs, h1, h2, h3⟩ := h; exact ⟨a, vs, h1, e _ _ h2, h3⟩
  | succ n =>
    have z : n = 0 := by omega
    subst z
    obtain ⟨a, o, r, h1, h2, h3, h4, h5⟩ := h
    cases o <;> first
      | exact h5.elim
      | exact ⟨a, _, h1, h3, (OwL.one h5).2⟩
theorem Ow.lstn {n : Nat} {ds : List D} {v : V} {fp : List Addr} (e : Ex F H) (h : Ow K F H n (.lst ds) v fp) : ∃ a vs, v = .ref a ∧ H a = some (.lst vs) ∧ ds.length = vs.length := by
  cases n with
  | zero => obtain ⟨_, a, vs, h1, h2, h3⟩ := h; exact ⟨a, vs, h1, e _ _ h2, h3.len⟩
  | succ n =>
    obtain ⟨a, o, r, h1, h2, h3, h4, h5⟩ := h
    cases o <;> first
      | exact h5.elim
      | exact ⟨a, _, h1, h3, OwL.len h5⟩
theorem Ow.sl {n : Nat} {ds : List D} {v : V} {fp : List Addr} (e : Ex F H) (h : Ow K F H n (.sl ds) v fp) : n = 0 ∧ ∃ a vs, v = .ref a ∧ SqL K H a vs ∧ RpL K F ds vs := by
  cases n with
  | zero => obtain ⟨_, a, vs, h1, h2, h3⟩ := h; exact ⟨rfl, a, vs, h1, e.sqL h2, h3⟩
  | succ n => obtain ⟨a, o, r, h1, h2, h3, h4, h5⟩ := h; cases o <;> exact h5.elim
theorem Ow.tup {n : Nat} {ds : List D} {v : V} {fp : List Addr} (e : Ex F H) (h : Ow K F H n (.tup ds) v fp) : n = 0 ∧ ∃ a vs, v = .ref a ∧ H a = some (.tup vs) ∧ RpL K F ds vs := by
  cases n with
  | zero => obtain ⟨_, a, vs, h1, h2, h3⟩ := h; exact ⟨rfl, a, vs, h1, e _ _ h2, h3⟩
  | succ n => obtain ⟨a, o, r, h1, h2, h3, h4, h5⟩ := h; cases o <;> exact h5.elim
theorem Ow.dK {n : Nat} {ks : List Key} {ds : List D} {v : V} {fp : List Addr} (e : Ex F H) (h : Ow K F H n (.dK ks ds) v fp) (hn : n ≤ 1) : ∃ a ws, v = .ref a ∧ H a = some (.dK ws) ∧ ws.map (·.1) = ks ∧ RpL K F ds (ws.map (·.2)) := by
  cases n with
  | zero => obtain ⟨_, a, vs, h1, h2, h3, h4⟩ := h; exact ⟨a, vs, h1, e _ _ h2, h3, h4⟩
  | succ n =>
    have z : n = 0 := by omega
    subst z
    obtain ⟨a, o, r, h1, h2, h3, h4, h5⟩ := h
    cases o <;> first
      | exact h5.elim
      | exact ⟨a, _, h1, h3, h5.1, (OwL.one h5.2).2⟩
theorem Ow.dT {n : Nat} {ks : List (List Key)} {ds : List D} {v : V} {fp : List Addr} (e : Ex F H) (h : Ow K F H n (.dT ks ds) v fp) (hn : n ≤ 1) : ∃ a ws, v = .ref a ∧ H a = some (.dT ws) ∧ ws.map (·.1) = ks ∧ RpL K F ds (ws.map (·.2)) := by
  cases n with
  | zero => obtain ⟨_, a, vs, h1, h2, h3, h4⟩ := h; exact ⟨a, vs, h1, e _ _ h2, h3, h4⟩
  | succ n =>
    have z : n = 0 := by omega
    subst z
    obtain ⟨a, o, r, h1, h2, h3, h4, h5⟩ := h
    cases o <;> first
      | exact h5.elim
      | exact ⟨a, _, h1, h3, h5.1, (OwL.one h5.2).2⟩
/-- a new list, owned -/
theorem EvOk.newL {ds : List D} {vs : List V} {p : Addr} (k : EvOk K F H Q (1, .lst ds)) (e : Ex F H) (r : RpL K F ds vs) (hp : H p = none) : Q (.ref p) (upd H p (.lst vs)) :=
  k (.ref p) F (upd H p (.lst vs)) [p] (Gr.own e hp) (Ow.lst1 r (e.back hp) upd_same) (List.nodup_cons.mpr ⟨by simp, List.nodup_nil⟩) fun a m => by rw [List.mem_singleton] at m; rw [m]; exact hp
theorem EvOk.newT {ds : List D} {vs : List V} {p : Addr} (k : EvOk K F H Q (0, .tup ds)) (e : Ex F H) (r : RpL K F ds vs) (hp : H p = none) : Q (.ref p) (upd H p (.tup vs)) :=
  k.z (Gr.frz e hp) ⟨p, vs, rfl, upd_same, RpL.mono (Ex.new' (e.back hp)) _ _ r⟩

/-! ### arithmetic -/
def tt : Int → Int → Bool := fun _ _ => true
def cMul (i j : Int) : Bool := (decide (-(2 ^ 64) < i) && decide (i < 2 ^ 64)) || (decide (-(2 ^ 64) < j) && decide (j < 2 ^ 64))
def cDiv (i j : Int) : Bool := decide (0 < j) && decide (j < 1073741824)
def cMod (i j : Int) : Bool := decide (0 < j)
def cPow (i j : Int) : Bool := decide (0 ≤ j) && decide (j ≤ 1000000) && decide (i.natAbs < 2 ^ 64)
def oAdd : Sv → Sv → Option Sv := oI tt fun i j => .int (i + j)
def oSub : Sv → Sv → Option Sv := oI tt fun i j => .int (i - j)
def oMul : Sv → Sv → Option Sv := oI cMul fun i j => .int (i * j)
def oDiv : Sv → Sv → Option Sv := oI cDiv fun i j => .int (i / j)
def oMod : Sv → Sv → Option Sv := oI cMod fun i j => .int (i % j)
def oPow : Sv → Sv → Option Sv := oI cPow fun i j => .int (i ^ j.toNat)
theorem vAdd : VR2 K (rI0 fun i j => .int (i + j)) oAdd := vI0 fun _ _ _ => rfl
theorem vSub : VR2 K (rI0 fun i j => .int (i - j)) oSub := vI0 fun _ _ _ => rfl
theorem vMul : VR2 K (rI CMul fun i j => .int (i * j)) oMul := vI (fun i j h => by
  unfold cMul at h
  rw [Bool.or_eq_true, Bool.and_eq_true, Bool.and_eq_true] at h
  rcases h with ⟨h1, h2⟩ | ⟨h1, h2⟩
  · exact .inl ⟨of_decide_eq_true h1, of_decide_eq_true h2⟩
  · exact .inr ⟨of_decide_eq_true h1, of_decide_eq_true h2⟩) fun _ _ _ => rfl
theorem vDiv : VR2 K (rI CDiv fun i j => .int (i / j)) oDiv := vI (fun i j h => by
  unfold cDiv at h
  rw [Bool.and_eq_true] at h
  exact ⟨of_decide_eq_true h.1, of_decide_eq_true h.2⟩) fun _ _ _ => rfl
theorem vMod : VR2 K (rI (fun _ j => 0 < j) fun i j => .int (i % j)) oMod := vI (fun i j h => of_decide_eq_true h) fun _ _ _ => rfl
theorem vPow : VR2 K (rI CPow fun i j => .int (i ^ j.toNat)) oPow := vI (fun i j h => by
  unfold cPow at h
  rw [Bool.and_eq_true, Bool.and_eq_true] at h
  exact ⟨of_decide_eq_true h.1.1, of_decide_eq_true h.1.2, of_decide_eq_true h.2⟩) fun _ _ _ => rfl
/-- texts, lists -/
def oCatS : Sv → Sv → Option Sv := fun p q => match p.2, q.2 with
  | .str x, .str y => if x.length + y.length ≤ sizeLine then some (0, .str (x ++ y)) else none
  | _, _ => none
theorem vCatS : VR2 K (fun x y H Q => ∃ i j, x = .str i ∧ y = .str j ∧ i.length + j.length ≤ sizeLine ∧ Q (.str (i ++ j)) H) oCatS := by
  intro F H x y p q fp fq z Q e w1 w2 h k
  obtain ⟨n, d⟩ := p
  obtain ⟨m, d'⟩ := q
  cases d <;> first | (cases h; done) | skip
  cases d' <;> first | (cases h; done) | skip
  rename_i s1 s2
  have h' : (if s1.length + s2.length ≤ sizeLine then some ((0, .str (s1 ++ s2)) : Sv) else none) = some z := h
  by_cases c : s1.length + s2.length ≤ sizeLine
  · rw [if_pos c] at h'
    cases h'
    exact ⟨s1, s2, w1.str, w2.str, c, k.fl e rfl⟩
  · rw [if_neg c] at h'; cases h'
def oCatL : Sv → Sv → Option Sv := fun p q => match p, q with
  | (n, .lst x), (m, .lst y) => if n ≤ 1 ∧ m ≤ 1 ∧ x.length + y.length ≤ sizeLine then some (1, .lst (x ++ y)) else none
  | _, _ => none
theorem vCatL : VR2 K rCat oCatL := by
  intro F H x y p q fp fq z Q e w1 w2 h k
  obtain ⟨n, d⟩ := p
  obtain ⟨m, d'⟩ := q
  cases d <;> first | (cases h; done) | skip
  cases d' <;> first | (cases h; done) | skip
  rename_i s1 s2
  have h' : (if n ≤ 1 ∧ m ≤ 1 ∧ s1.length + s2.length ≤ sizeLine then some ((1, .lst (s1 ++ s2)) : Sv) else none) = some z := h
  by_cases c : n ≤ 1 ∧ m ≤ 1 ∧ s1.length + s2.length ≤ sizeLine
  · rw [if_pos c] at h'
    cases h'
    obtain ⟨a, vs, rfl, ha, ra⟩ := w1.lst e c.1
    obtain ⟨b, ws, rfl, hb, rb⟩ := w2.lst e c.2.1
    exact ⟨a, b, vs, ws, rfl, rfl, ha, hb, by rw [← ra.len, ← rb.len]; exact c.2.2, fun p hp => k.newL e (ra.append rb) hp⟩
  · rw [if_neg c] at h'; cases h'
def oCatT : Sv → Sv → Option Sv := fun p q => match p, q with
  | (_, .tup x), (_, .tup y) => if x ≠ [] ∧ y ≠ [] ∧ x.length + y.length ≤ sizeLine then some (0, .tup (x ++ y)) else none
  | _, _ => none
theorem vCatT : VR2 K (rCatT K) oCatT := by
  intro F H x y p q fp fq z Q e w1 w2 h k
  obtain ⟨n, d⟩ := p
  obtain ⟨m, d'⟩ := q
  cases d <;> first | (cases h; done) | skip
  cases d' <;> first | (cases h; done) | skip
  rename_i s1 s2
  have h' : (if s1 ≠ [] ∧ s2 ≠ [] ∧ s1.length + s2.length ≤ sizeLine then some ((0, .tup (s1 ++ s2)) : Sv) else none) = some z := h
  by_cases c : s1 ≠ [] ∧ s2 ≠ [] ∧ s1.length + s2.length ≤ sizeLine
  · rw [if_pos c] at h'
    cases h'
    obtain ⟨_, a, vs, rfl, ha, ra⟩ := w1.tup e
    obtain ⟨_, b, ws, rfl, hb, rb⟩ := w2.tup e
    have l1 := ra.len
    have l2 := rb.len
    have c1 := List.length_pos_iff.mpr c.1
    have c2 := List.length_pos_iff.mpr c.2.1
    refine ⟨a, b, vs, ws, rfl, rfl, SqT.of ha, SqT.of hb, ?_, by rw [← l1, ← l2]; exact c.2.2, fun z => ?_, fun _ p hp => k.newT e (ra.append rb) hp⟩
    · intro z; rw [z, List.length_nil] at l1; rw [l1] at c1; exact absurd c1 (Nat.lt_irrefl 0)
    · rw [z, List.length_nil] at l2; rw [l2] at c2; exact absurd c2 (Nat.lt_irrefl 0)
  · rw [if_neg c] at h'; cases h'
/-- [d] * n -/
def oRep : Sv → Sv → Option Sv := fun p q => match p, q with
  | (n, .lst [d]), (_, .int k) => if n ≤ 1 ∧ 0 ≤ k ∧ k ≤ 100000 then some (1, .lst (List.replicate k.toNat d)) else none
  | _, _ => none
theorem flat_rep (v : V) : ∀ n, (List.replicate n [v]).flatten = List.replicate n v
  | 0 => rfl
  | n + 1 => by rw [List.replicate_succ, List.flatten_cons, flat_rep v n, List.replicate_succ]; rfl
theorem vRep : VR2 K rRep oRep := by
  intro F H x y p q fp fq z Q e w1 w2 h k
  obtain ⟨n, d⟩ := p
  obtain ⟨m, d'⟩ := q
  cases d <;> first | (cases h; done) | skip
  rename_i xs
  rcases xs with _ | ⟨d, _ | ⟨d2, r⟩⟩ <;> first | (cases h; done) | skip
  cases d' <;> first | (cases h; done) | skip
  rename_i j
  have h' : (if n ≤ 1 ∧ 0 ≤ j ∧ j ≤ 100000 then some ((1, .lst (List.replicate j.toNat d)) : Sv) else none) = some z := h
  by_cases c : n ≤ 1 ∧ 0 ≤ j ∧ j ≤ 100000
  · rw [if_pos c] at h'
    cases h'
    obtain ⟨a, vs, rfl, ha, v, r, rfl, hv, hr⟩ := w1.lst e c.1
    cases (show r = [] from hr)
    refine ⟨a, j, [v], rfl, w2.int, ha, by omega, by omega, ?_, fun p hp => ?_⟩
    · rw [sizeLine_eq]; simp; omega
    · rw [flat_rep]
      exact k.newL e (RpL.rep hv _) hp
  · rw [if_neg c] at h'; cases h'
def oOr (f g : Sv → Sv → Option Sv) : Sv → Sv → Option Sv := fun p q => (f p q).or (g p q)

/-! ### one operand -/
def VR1 (K : Fg) (r : V → Hp → VK → Prop) (op : Sv → Option Sv) : Prop := ∀ (F H : Hp) (x : V) (p : Sv) (fp : List Addr) (z : Sv) (Q : VK), Ex F H → Ow K F H p.1 p.2 x fp → op p = some z → EvOk K F H Q z → r x H Q
def f1 (op : Sv → Option Sv) (f : Env → M Sv) : Env → M Sv := fun env => bd (f env) fun x => lf (op x)
theorem pd_un {W : WX} {a : Expr} {f : Env → M Sv} {op : UnaryOp} {r : V → Hp → VK → Prop} {fn : Sv → Option Sv} {pos : Pos} (ho : UnR X (unaryOp op) r) (v : VR1 K r fn) (ha : PE X a (tW K W f)) : PE X (.UnaryOp op a pos) (tD K W (f1 fn f)) :=
  PE.imp (pe_un ho ha) fun σ H Q ⟨F0, H0, F, env, s, o⟩ => by
    have o : Out (f1 fn f env) (EvOk K F H Q) (ExOk K F H W σ) := o
    refine tW.out s (Out.imp o.bd (fun x ox => ?_) fun _ k => k)
    intro v1 F1 H1 fp g1 w1
    obtain ⟨z, ez, kz⟩ := ox.lf
    exact v F1 H1 v1 x fp z Q g1.fh w1 ez (kz.on g1)
def oNeg : Sv → Option Sv := fun p => match p.2 with | .int i => some (0, .int (-i)) | _ => none
theorem vNeg : VR1 K (rU fun i => .int (-i)) oNeg := by
  intro F H x p fp z Q e w h k
  obtain ⟨n, d⟩ := p
  cases d <;> first | (cases h; done) | skip
  cases h
  exact ⟨_, w.int, k.fl e rfl⟩

/-! ### comparisons -/
def oB (c : Int → Int → Bool) : Sv → Sv → Option Sv := oI tt fun i j => .bl (c i j)
theorem vB {c : Int → Int → Bool} : VR2 K (rI0 fun i j => .bl (c i j)) (oB c) := vI0 fun _ _ _ => rfl
def oLt := oB fun i j => decide (i < j)
def oLe := oB fun i j => decide (i ≤ j)
def oGt := oB fun i j => decide (j < i)
def oGe := oB fun i j => decide (j ≤ i)
/-- tuples of intsOf by order -/
def intsOf : List D → Option (List Int)
  | [] => some []
  | .int i :: r => (intsOf r).map (i :: ·)
  | _ :: _ => none
theorem intsOf_map : ∀ (ns : List Int), intsOf (ns.map D.int) = some ns
  | [] => rfl
  | n :: ns => by show (intsOf (ns.map D.int)).map (n :: ·) = _; rw [intsOf_map ns]; rfl
theorem intsOf_some : ∀ {ds : List D} {ns : List Int}, intsOf ds = some ns → ds = ns.map D.int
  | [], ns, h => by cases h; rfl
  | d :: r, ns, h => by
    cases d <;> first | (cases h; done) | skip
    rename_i i
    have h' : (intsOf r).map (i :: ·) = some ns := h
    cases q : intsOf r with
    | none => rw [q] at h'; cases h'
    | some m => rw [q] at h'; cases h'; rw [List.map_cons, intsOf_some q]
theorem RpL.intsV : ∀ {ns : List Int} {vs : List V}, RpL K F (ns.map D.int) vs → vs = ns.map V.int
  | [], _, h => h
  | n :: ns, _, ⟨v, r, h1, h2, h3⟩ => by rw [h1, (show v = .int n from h2), RpL.intsV h3]; rfl
def oLtT : Sv → Sv → Option Sv := fun p q => match p.2, q.2 with
  | .tup x, .tup y => (intsOf x).bind fun a => (intsOf y).map fun b => ((0, .bl (HT.lexLt a b)) : Sv)
  | _, _ => none
theorem vLtT : VR2 K (rLtT K) oLtT := by
  intro F H x y p q fp fq z Q e w1 w2 h k
  obtain ⟨n, d⟩ := p
  obtain ⟨m, d'⟩ := q
  cases d <;> first | (cases h; done) | skip
  cases d' <;> first | (cases h; done) | skip
  rename_i s1 s2
  have h' : ((DP.intsOf s1).bind fun a => (DP.intsOf s2).map fun b => ((0, .bl (HT.lexLt a b)) : Sv)) = some z := h
  cases q1 : DP.intsOf s1 with
  | none => rw [q1] at h'; cases h'
  | some a =>
    rw [q1, Option.bind_some] at h'
    cases q2 : DP.intsOf s2 with
    | none => rw [q2] at h'; cases h'
    | some b =>
      rw [q2] at h'
      cases h'
      obtain ⟨_, p1, vs, rfl, ha, ra⟩ := w1.tup e
      obtain ⟨_, p2, ws, rfl, hb, rb⟩ := w2.tup e
      rw [intsOf_some q1] at ra
      rw [intsOf_some q2] at rb
      rw [ra.intsV] at ha
      rw [rb.intsV] at hb
      exact ⟨p1, p2, a, b, rfl, rfl, SqT.of ha, SqT.of hb, k.fl e rfl⟩
/-- is None -/
def isNone : D → Bool | .non => true | _ => false
def oIs : Sv → Sv → Option Sv := fun p q => match q.2 with | .non => some (0, .bl (isNone p.2)) | _ => none
def oIsNot : Sv → Sv → Option Sv := fun p q => match q.2 with | .non => some (0, .bl (!isNone p.2)) | _ => none
theorem Ow.isNone {n : Nat} {d : D} {v : V} {fp : List Addr} (h : Ow K F H n d v fp) : decide (v = .non) = isNone d := by
  cases n with
  | zero =>
    obtain ⟨_, h⟩ := h
    cases d <;> first
      | (cases h; rfl)
      | (obtain ⟨a, _, h1, _⟩ := h; rw [h1]; rfl)
      | (obtain ⟨a, _, _, h1, _⟩ := h; rw [h1]; rfl)
  | succ n =>
    obtain ⟨a, o, r, h1, h2, h3, h4, h5⟩ := h
    rw [h1]
    cases d <;> cases o <;> first
      | exact h5.elim
      | rfl
theorem vIs : VR2 K (fun x y H Q => y = .non ∧ Q (.bl (decide (x = .non))) H) oIs := by
  intro F H x y p q fp fq z Q e w1 w2 h k
  obtain ⟨m, d'⟩ := q
  cases d' <;> first | (cases h; done) | skip
  cases h
  exact ⟨w2.non, by rw [w1.isNone]; exact k.fl e rfl⟩
theorem vIsNot : VR2 K (fun x y H Q => y = .non ∧ Q (.bl (!decide (x = .non))) H) oIsNot := by
  intro F H x y p q fp fq z Q e w1 w2 h k
  obtain ⟨m, d'⟩ := q
  cases d' <;> first | (cases h; done) | skip
  cases h
  exact ⟨w2.non, by rw [w1.isNone]; exact k.fl e rfl⟩
def oIsB : Sv → Sv → Option Sv := fun p q => match p.2, q.2 with | .bl a, .bl b => some (0, .bl (a == b)) | _, _ => none
def oIsNotB : Sv → Sv → Option Sv := fun p q => match p.2, q.2 with | .bl a, .bl b => some (0, .bl (!(a == b))) | _, _ => none
theorem vIsB : VR2 K rIsB oIsB := by
  intro F H x y p q fp fq z Q e w1 w2 h k
  obtain ⟨n, d⟩ := p
  obtain ⟨m, d'⟩ := q
  cases d <;> first | (cases h; done) | skip
  cases d' <;> first | (cases h; done) | skip
  cases h
  exact ⟨_, _, w1.bl, w2.bl, k.fl e (by rw [Bool.beq_eq_decide_eq]; rfl)⟩
theorem vIsNotB : VR2 K rNotB oIsNotB := by
  intro F H x y p q fp fq z Q e w1 w2 h k
  obtain ⟨n, d⟩ := p
  obtain ⟨m, d'⟩ := q
  cases d <;> first | (cases h; done) | skip
  cases d' <;> first | (cases h; done) | skip
  cases h
  exact ⟨_, _, w1.bl, w2.bl, k.fl e (by rw [Bool.beq_eq_decide_eq]; rfl)⟩

/-! ### == of data -/
mutual
def pyd : D → PyData
  | .non => .none
  | .bl b => .bool b
  | .int i => .int i
  | .str x => .str x
  | .tup xs => .tuple (pydL xs)
  | .lst xs => .list (pydL xs)
  | _ => .dict []
def pydL : List D → List PyData
  | [] => []
  | x :: xs => pyd x :: pydL xs
end
theorem pydL_map : ∀ xs : List D, pydL xs = xs.map pyd
  | [] => rfl
  | x :: xs => by rw [pydL, pydL_map xs]; rfl
mutual
theorem Rp.dp (e : Ex F H) : ∀ (d : D) (v : V), (pyd d).canLay0 = true → Rp K F d v → Dp K H v (pyd d)
  | .non, _, _, h => by cases h; exact .non
  | .bl b, _, _, h => by cases h; exact .bl b
  | .int b, _, _, h => by cases h; exact .int b
  | .str b, _, _, h => by cases h; exact .str b
  | .tup xs, _, l, ⟨a, vs, h1, h2, h3⟩ => by
    subst h1
    exact .tup (SqT.of (e _ _ h2)) (RpL.dp e xs vs (by simpa [pyd, PyData.canLay0] using l) h3)
  | .lst xs, _, l, ⟨a, vs, h1, h2, h3⟩ => by
    subst h1
    exact .lst (SqL.of (e _ _ h2)) (RpL.dp e xs vs (by simpa [pyd, PyData.canLay0] using l) h3)
  | .ref _, _, l, _ => by simp [pyd, PyData.canLay0] at l
  | .sl _, _, l, _ => by simp [pyd, PyData.canLay0] at l
  | .dK _ _, _, l, _ => by simp [pyd, PyData.canLay0] at l
  | .dT _ _, _, l, _ => by simp [pyd, PyData.canLay0] at l
  | .ins _ _ _, _, l, _ => by simp [pyd, PyData.canLay0] at l
theorem RpL.dp (e : Ex F H) : ∀ (ds : List D) (vs : List V), PyData.canLayAll0 (pydL ds) = true → RpL K F ds vs → DpAll K H vs (pydL ds)
  | [], _, _, h => by cases (show _ = [] from h); exact .nil
  | x :: xs, _, l, ⟨v, r, h1, h2, h3⟩ => by
    subst h1
    have l' : (pyd x).canLay0 = true ∧ PyData.canLayAll0 (pydL xs) = true := by simpa [pydL, PyData.canLayAll0] using l
    exact .cons (Rp.dp e x v l'.1 h2) (RpL.dp e xs r l'.2 h3)
end
theorem Ow.dp {n : Nat} {d : D} {v : V} {fp : List Addr} (e : Ex F H) (h : Ow K F H n d v fp) (l : (pyd d).canLay0 = true) : Dp K H v (pyd d) :=
  Rp.dp (F := frz F H fp) (frz_fh e) d v l (Ow.frozen (frz_ex fun a m => (h.fp a m).1) (fun a m => frz_in m) h)
def shp (d : D) : Bool := SeqAt.shaped (pyd d)
def eqD (d e : D) : Bool := PyData.eqv (pyd d) (pyd e)
def oEq : Sv → Sv → Option Sv := fun p q => if shp p.2 && shp q.2 then some (0, .bl (eqD p.2 q.2)) else none
def oNe : Sv → Sv → Option Sv := fun p q => if shp p.2 && shp q.2 then some (0, .bl (!eqD p.2 q.2)) else none
theorem vEq : VR2 K (rEqD K) oEq := by
  intro F H x y p q fp fq z Q e w1 w2 h k
  unfold oEq at h
  cases c : (shp p.2 && shp q.2) with
  | false => rw [c] at h; cases h
  | true =>
    rw [c, if_pos rfl] at h
    cases h
    rw [Bool.and_eq_true] at c
    exact ⟨_, _, w1.dp e (SeqAt.canLay_of_shaped c.1), w2.dp e (SeqAt.canLay_of_shaped c.2), c.1, c.2, k.fl e rfl⟩
theorem vNe : VR2 K (rNeD K) oNe := by
  intro F H x y p q fp fq z Q e w1 w2 h k
  unfold oNe at h
  cases c : (shp p.2 && shp q.2) with
  | false => rw [c] at h; cases h
  | true =>
    rw [c, if_pos rfl] at h
    cases h
    rw [Bool.and_eq_true] at c
    exact ⟨_, _, w1.dp e (SeqAt.canLay_of_shaped c.1), w2.dp e (SeqAt.canLay_of_shaped c.2), c.1, c.2, k.fl e rfl⟩

/-! ### in, not in -/
/-- one sign in a text -/
def oInS (neg : Bool) : Sv → Sv → Option Sv := fun p q => match p.2, q.2 with
  | .str x, .str z => match x.cps.toList with
    | [c] => some (0, .bl (if neg then !decide (c ∈ z.cps.toList) else decide (c ∈ z.cps.toList)))
    | _ => none
  | _, _ => none
theorem str_one {x : Str} {c : Nat} (h : x.cps.toList = [c]) : x = ⟨#[c]⟩ := by
  obtain ⟨⟨l⟩⟩ := x
  have : l = [c] := h
  rw [this]
theorem oInS_some {neg : Bool} {p q z : Sv} (h : oInS neg p q = some z) : ∃ c y, p.2 = .str ⟨#[c]⟩ ∧ q.2 = .str y ∧ z = (0, .bl (if neg then !decide (c ∈ y.cps.toList) else decide (c ∈ y.cps.toList))) := by
  obtain ⟨n, d⟩ := p
  obtain ⟨m, d'⟩ := q
  cases d <;> first | (cases h; done) | skip
  cases d' <;> first | (cases h; done) | skip
  rename_i x y
  have h' : (match x.cps.toList with
    | [c] => some ((0, .bl (if neg then !decide (c ∈ y.cps.toList) else decide (c ∈ y.cps.toList))) : Sv)
    | _ => none) = some z := h
  rcases q : x.cps.toList with _ | ⟨c, _ | ⟨c2, r⟩⟩
  · rw [q] at h'; cases h'
  · rw [q] at h'; cases h'
    exact ⟨c, y, by rw [str_one q], rfl, rfl⟩
  · rw [q] at h'; cases h'
def rInS' (neg : Bool) : R2 := fun x y H Q => ∃ (c : Nat) (z : Str), x = .str ⟨#[c]⟩ ∧ y = .str z ∧ Q (.bl (if neg then !decide (c ∈ z.cps.toList) else decide (c ∈ z.cps.toList))) H
theorem op_inS' : OpR X (compareOp .In) (rInS' false) := op_in_sign
theorem op_notInS' : OpR X (compareOp .NotIn) (rInS' true) := op_notIn_sign
theorem vInS {neg : Bool} : VR2 K (rInS' neg) (oInS neg) := by
  intro F H x y p q fp fq z Q e w1 w2 h k
  obtain ⟨c, t, e1, e2, rfl⟩ := oInS_some h
  rw [e1] at w1
  rw [e2] at w2
  exact ⟨c, t, w1.str, w2.str, k.fl e rfl⟩
/-- flat data -/
def flat : D → Bool | .non => true | .bl _ => true | .int _ => true | .str _ => true | _ => false
def fv : D → V | .non => .non | .bl b => .bl b | .int i => .int i | .str x => .str x | _ => .non
theorem Ow.fv {n : Nat} {d : D} {v : V} {fp : List Addr} (h : Ow K F H n d v fp) (f : flat d = true) : v = fv d := by
  cases d <;> first
    | exact absurd (show false = true from f) Bool.false_ne_true
    | exact h.non
    | exact h.bl
    | exact h.int
    | exact h.str
theorem RpL.fv : ∀ {ds : List D} {vs : List V}, RpL K F ds vs → ds.all flat = true → vs = ds.map DP.fv
  | [], _, h, _ => h
  | d :: ds, _, ⟨v, r, h1, h2, h3⟩, f => by
    rw [List.all_cons, Bool.and_eq_true] at f
    rw [h1, Ow.fv (H := F) (Ow.z h2) f.1, RpL.fv h3 f.2]; rfl
theorem flatV_fv {d : D} (f : flat d = true) : flatV (fv d) = true := by
  cases d <;> first | rfl | exact absurd (show false = true from f) Bool.false_ne_true
theorem flatV_all : ∀ {ds : List D}, ds.all flat = true → (ds.map fv).all flatV = true
  | [], _ => rfl
  | d :: ds, f => by
    rw [List.all_cons, Bool.and_eq_true] at f
    rw [List.map_cons, List.all_cons, flatV_fv f.1, flatV_all f.2]; rfl
theorem Rp.flat {d : D} (f : flat d = true) : Rp K F d (fv d) := by
  cases d <;> first | rfl | exact absurd (show false = true from f) Bool.false_ne_true
/-- == of flat data -/
def eqF (d e : D) : Bool := eqV (fv d) (fv e)
def seqOf : Sv → Option (List D)
  | (n, .lst x) => if n ≤ 1 then some x else none
  | (_, .tup x) => some x
  | (_, .sl x) => some x
  | _ => none
theorem Ow.seq {p : Sv} {v : V} {fp : List Addr} {ds : List D} (e : Ex F H) (h : Ow K F H p.1 p.2 v fp) (s : seqOf p = some ds) : ∃ a vs, v = .ref a ∧ (SqL K H a vs ∨ SqT K H a vs) ∧ RpL K F ds vs := by
  obtain ⟨n, d⟩ := p
  cases d <;> first | (cases s; done) | skip
  · cases s
    obtain ⟨_, a, vs, h1, h2, h3⟩ := h.tup e
    exact ⟨a, vs, h1, .inr (SqT.of h2), h3⟩
  · rename_i x
    have s' : (if n ≤ 1 then some x else none) = some ds := s
    by_cases c : n ≤ 1
    · rw [if_pos c] at s'
      cases s'
      obtain ⟨a, vs, h1, h2, h3⟩ := h.lst e c
      exact ⟨a, vs, h1, .inl (SqL.of h2), h3⟩
    · rw [if_neg c] at s'; cases s'
  · cases s
    obtain ⟨_, a, vs, h1, h2, h3⟩ := h.sl e
    exact ⟨a, vs, h1, .inl h2, h3⟩
def inF (d : D) (ds : List D) : Bool := ds.any fun y => eqF y d
theorem inV_map (d : D) (ds : List D) : inV (fv d) (ds.map fv) = inF d ds := by
  unfold inV inF eqF
  rw [List.any_map]; rfl
def oIn (neg : Bool) : Sv → Sv → Option Sv := fun p q => (seqOf q).bind fun ds => if flat p.2 && ds.all flat then some (0, .bl (if neg then !inF p.2 ds else inF p.2 ds)) else none
theorem vIn {neg : Bool} : VR2 K (rIn K neg) (oIn neg) := by
  intro F H x y p q fp fq z Q e w1 w2 h k
  unfold oIn at h
  cases s : seqOf q with
  | none => rw [s] at h; cases h
  | some ds =>
    rw [s, Option.bind_some] at h
    cases c : (flat p.2 && ds.all flat) with
    | false => rw [c] at h; cases h
    | true =>
      rw [c, if_pos rfl] at h
      cases h
      rw [Bool.and_eq_true] at c
      obtain ⟨a, vs, rfl, h2, h3⟩ := w2.seq e s
      have ev := h3.fv c.2
      have ex := w1.fv c.1
      subst ev ex
      refine ⟨a, _, rfl, h2, flatV_fv c.1, flatV_all c.2, ?_⟩
      rw [inV_map]
      exact k.fl e rfl
end
end DP
/-! DP: tests, displays, subscripts, calls of built-ins. -/
namespace DP
open PySem L2

/-! ### tests -/
section
variable {X : Cx} {K : Fg} {W : WX} {a b c : Expr} {rest : List Expr} {pos : Pos} {f g h : Env → M Sv} {t u : Env → M Bool}
def asB (x : Sv) : M Bool := match x.2 with | .bl k => M.ok k | _ => none
theorem asB_ok {x : Sv} {k : Bool} (h : asB x = M.ok k) : x.2 = .bl k := by
  obtain ⟨n, d⟩ := x
  cases d <;> first | (cases h; done) | skip
  rename_i b
  rw [Except.ok.inj (Option.some.inj (show M.ok b = M.ok k from h))]
theorem asB_er {x : Sv} {e : XD} (h : asB x = M.er e) : False := by
  obtain ⟨n, d⟩ := x
  cases d <;> first | (cases h; done) | skip
theorem tWD {K : Fg} {W : WX} {f : Env → M Sv} {σ : St} {H : Hp} {Q : VK} (z : tW K W f σ H Q) : tD K W f σ H Q := by
  obtain ⟨F0, H0, F, env, s, o⟩ := z
  have o : Out (f env) (EvWk K F H Q) (ExOk K F H W σ) := o
  exact tD.out s (Out.imp o (fun _ k => EvWk.ok k) fun _ k => k)
def fT (f : Env → M Sv) : Env → M Bool := fun env => bd (f env) asB
theorem tT_of {te : TE} (q : ∀ σ H Q, tW K W f σ H Q → te σ H Q) (σ : St) (H : Hp) (Q : Bool → Hp → Prop) (t : tB' K W (fT f) σ H Q) : te σ H fun x H' => ∃ k, x = .bl k ∧ Q k H' := by
  obtain ⟨F0, H0, F, env, s, o⟩ := t
  have o : Out (fT f env) (fun b => ∀ F' H', Gr F H F' H' → Q b H') (ExOk K F H W σ) := o
  refine q _ _ _ (tW.out s (Out.imp o.bd (fun x ox => ?_) fun _ k => k))
  intro v F1 H1 fp g1 w1
  rcases ox with ⟨k, ek, kk⟩ | ⟨e, ee, _⟩
  · rw [asB_ok ek] at w1
    exact ⟨k, w1.bl, kk F1 H1 g1⟩
  · exact (asB_er ee).elim
theorem pt_v (he : PE X a (tW K W f)) (hw : ∀ whole, isTrue a X.env whole = (do let v ← whole; standAt a.pos; holding [v] (truthy v)) := by intro _; rfl) : PT X a (tB' K W (fT f)) :=
  PT.imp (pt_val he hw) fun σ H Q t => tT_of (fun _ _ _ z => z) σ H Q t
theorem pt_cmp2 {op : CmpOp} {r : R2} {fn : Sv → Sv → Option Sv} (ho : OpR X (compareOp op) r) (v : VR2 K r fn) (ha : PE X a (tW K W f)) (hb : PE X b (tW K W g)) (hm : behindInMarks op b = false) : PT X (.Compare a [op] [b] pos) (tB' K W (fT (f2 fn f g))) :=
  PT.imp (pt_cmpR ho ha hb hm) fun σ H Q t => tT_of (f := f2 fn f g) (fun _ _ _ z => t2_of v (tWD z)) σ H Q t
def fNot (t : Env → M Bool) : Env → M Bool := fun env => bd (t env) fun k => M.ok !k
def fAnd (t u : Env → M Bool) : Env → M Bool := fun env => bd (t env) fun k => if k then u env else M.ok false
def fOr (t u : Env → M Bool) : Env → M Bool := fun env => bd (t env) fun k => if k then M.ok true else u env
theorem pt_n (ha : PT X a (tB' K W t)) : PT X (.UnaryOp .Not a pos) (tB' K W (fNot t)) := PT.imp (pt_not ha) fun σ H Q ⟨F0, H0, F, env, s, o⟩ => by
  have o : Out (fNot t env) (fun b => ∀ F' H', Gr F H F' H' → Q b H') (ExOk K F H W σ) := o
  exact tB'.out s (Out.imp o.bd (fun x ox F' H' g => ox.ok rfl F' H' g) fun _ k => k)
theorem SR.out2 {F0 H0 F H F' H' : Hp} {σ : St} {env : Env} {Q : Bool → Hp → Prop} (s : SR K F0 H0 F H σ env) (gr : Gr F H F' H') (o : Out (u env) (fun b => ∀ F' H', Gr F H F' H' → Q b H') (ExOk K F H W σ)) : tB' K W u σ H' Q :=
  tB'.out (s.on gr) (Out.imp o (fun _ k F2 H2 g2 => k F2 H2 (gr.trans g2)) fun _ k => k.on gr)
theorem pw_a1 (ha : PT X a (tB' K W t)) : PW X (.BoolOp .And [a] pos) (tB' K W t) := pw_and1 ha
theorem pw_o1 (ha : PT X a (tB' K W t)) : PW X (.BoolOp .Or [a] pos) (tB' K W t) := pw_or1 ha
theorem pw_a (ha : PT X a (tB' K W t)) (hb : PW X (.BoolOp .And (b :: rest) pos) (tB' K W u)) : PW X (.BoolOp .And (a :: b :: rest) pos) (tB' K W (fAnd t u)) := PW.imp (pw_and ha hb) fun σ H Q ⟨F0, H0, F, env, s, o⟩ => by
  have o : Out (fAnd t u env) (fun b => ∀ F' H', Gr F H F' H' → Q b H') (ExOk K F H W σ) := o
  refine tB'.out s (Out.imp o.bd (fun x ox F' H' g => ?_) fun _ k => k)
  cases x with
  | true => exact SR.out2 s g ox
  | false => exact ox.ok rfl F' H' g
theorem pw_o (ha : PT X a (tB' K W t)) (hb : PW X (.BoolOp .Or (b :: rest) pos) (tB' K W u)) : PW X (.BoolOp .Or (a :: b :: rest) pos) (tB' K W (fOr t u)) := PW.imp (pw_or ha hb) fun σ H Q ⟨F0, H0, F, env, s, o⟩ => by
  have o : Out (fOr t u env) (fun b => ∀ F' H', Gr F H F' H' → Q b H') (ExOk K F H W σ) := o
  refine tB'.out s (Out.imp o.bd (fun x ox F' H' g => ?_) fun _ k => k)
  cases x with
  | false => exact SR.out2 s g ox
  | true => exact ox.ok rfl F' H' g
theorem EvOk.out {F0 H0 F H F' H' : Hp} {σ : St} {env : Env} {Q : VK} (s : SR K F0 H0 F H σ env) (gr : Gr F H F' H') (o : Out (f env) (EvOk K F H Q) (ExOk K F H W σ)) : tD K W f σ H' Q :=
  tD.out (s.on gr) (Out.imp o (fun _ k => k.on gr) fun _ k => k.on gr)
/-- as values -/
def fAndV (f g : Env → M Sv) : Env → M Sv := fun env => bd (f env) fun x => bd (asB x) fun k => if k then g env else M.ok (0, .bl false)
def fOrV (f g : Env → M Sv) : Env → M Sv := fun env => bd (f env) fun x => bd (asB x) fun k => if k then M.ok (0, .bl true) else g env
def fNotV (f : Env → M Sv) : Env → M Sv := fun env => bd (f env) fun x => bd (asB x) fun k => M.ok (0, .bl (!k))
theorem pd_one {op} (he : PE X a (tD K W f)) : PE X (.BoolOp op [a] pos) (tD K W f) := pe_one he
theorem pd_and (ha : PE X a (tW K W f)) (hb : PE X (.BoolOp .And (b :: rest) pos) (tD K W g)) : PE X (.BoolOp .And (a :: b :: rest) pos) (tD K W (fAndV f g)) := PE.imp (pe_and ha hb) fun σ H Q ⟨F0, H0, F, env, s, o⟩ => by
  have o : Out (fAndV f g env) (EvOk K F H Q) (ExOk K F H W σ) := o
  refine tW.out s (Out.imp o.bd (fun x ox => ?_) fun _ k => k)
  intro v F1 H1 fp g1 w1
  rcases ox.bd with ⟨k, ek, ok⟩ | ⟨e, ee, _⟩
  · rw [asB_ok ek] at w1
    refine ⟨k, w1.bl, ?_⟩
    cases k with
    | true => exact EvOk.out s g1 ok
    | false => exact (ok.ok rfl).z g1 rfl
  · exact (asB_er ee).elim
theorem pd_or (ha : PE X a (tW K W f)) (hb : PE X (.BoolOp .Or (b :: rest) pos) (tD K W g)) : PE X (.BoolOp .Or (a :: b :: rest) pos) (tD K W (fOrV f g)) := PE.imp (pe_or ha hb) fun σ H Q ⟨F0, H0, F, env, s, o⟩ => by
  have o : Out (fOrV f g env) (EvOk K F H Q) (ExOk K F H W σ) := o
  refine tW.out s (Out.imp o.bd (fun x ox => ?_) fun _ k => k)
  intro v F1 H1 fp g1 w1
  rcases ox.bd with ⟨k, ek, ok⟩ | ⟨e, ee, _⟩
  · rw [asB_ok ek] at w1
    refine ⟨k, w1.bl, ?_⟩
    cases k with
    | false => exact EvOk.out s g1 ok
    | true => exact (ok.ok rfl).z g1 rfl
  · exact (asB_er ee).elim
theorem pd_not (ha : PE X a (tW K W f)) : PE X (.UnaryOp .Not a pos) (tD K W (fNotV f)) := PE.imp (pe_not ha) fun σ H Q ⟨F0, H0, F, env, s, o⟩ => by
  have o : Out (fNotV f env) (EvOk K F H Q) (ExOk K F H W σ) := o
  refine tW.out s (Out.imp o.bd (fun x ox => ?_) fun _ k => k)
  intro v F1 H1 fp g1 w1
  rcases ox.bd with ⟨k, ek, ok⟩ | ⟨e, ee, _⟩
  · rw [asB_ok ek] at w1
    exact ⟨k, w1.bl, (ok.ok rfl).z g1 rfl⟩
  · exact (asB_er ee).elim
def fIf (t : Env → M Bool) (f g : Env → M Sv) : Env → M Sv := fun env => bd (t env) fun k => if k then f env else g env
theorem pd_if (hc : PT X c (tB' K W t)) (ha : PE X a (tD K W f)) (hb : PE X b (tD K W g)) : PE X (.IfExp c a b pos) (tD K W (fIf t f g)) := PE.imp (pe_ifExp hc ha hb) fun σ H Q ⟨F0, H0, F, env, s, o⟩ => by
  have o : Out (fIf t f g env) (EvOk K F H Q) (ExOk K F H W σ) := o
  refine tB'.out s (Out.imp o.bd (fun x ox F' H' gr => ?_) fun _ k => k)
  cases x with
  | true => exact EvOk.out s gr ox
  | false => exact EvOk.out s gr ox
/-- a op b op' c -/
def fChain (op op' : Sv → Sv → Option Sv) (f g h : Env → M Sv) : Env → M Sv := fun env => bd (f env) fun x => bd (g env) fun y => bd (lf (op x y)) fun z => bd (asB z) fun k => if k then bd (h env) fun w => lf (op' y w) else M.ok (0, .bl false)
theorem tChain_of {r r' : R2} {op op' : Sv → Sv → Option Sv} (v : VR2 K r op) (v' : VR2 K r' op') {σ : St} {H : Hp} {Q : VK} (q : tD K W (fChain op op' f g h) σ H Q) : tChain r r' (tW K W f) (tW K W g) (tW K W h) σ H Q := by
  obtain ⟨F0, H0, F, env, s, o⟩ := q
  have o : Out (fChain op op' f g h env) (EvOk K F H Q) (ExOk K F H W σ) := o
  refine tW.out s (Out.imp o.bd (fun x ox => ?_) fun _ k => k)
  intro v1 F1 H1 fp g1 w1
  refine tW.out (s.on g1) (Out.imp ox.bd (fun y oy => ?_) fun _ k => k.on g1)
  intro v2 F2 H2 fq g2 w2
  have g12 := g1.trans g2
  obtain ⟨z, ez, oz⟩ := oy.bd.lf
  refine v F2 H2 v1 v2 x y fp fq z _ g2.fh (w1.mono g2) w2 ez ?_
  intro v3 F3 H3 fr g3 w3 _ _
  rcases oz.bd with ⟨k, ek, ok⟩ | ⟨e, ee, _⟩
  · rw [asB_ok ek] at w3
    refine ⟨k, w3.bl, ?_⟩
    cases k with
    | false => exact (ok.ok rfl).z (g12.trans g3) rfl
    | true =>
      refine tW.out ((s.on g12).on g3) (Out.imp ok.bd (fun w' ow => ?_) fun _ k => k.on (g12.trans g3))
      intro v4 F4 H4 ft g4 w4
      obtain ⟨z', ez', kz'⟩ := ow.lf
      exact v' F4 H4 v2 v4 y w' fq ft z' Q g4.fh ((w2.mono g3).mono g4) w4 ez' (kz'.on ((g12.trans g3).trans g4))
  · exact (asB_er ee).elim
theorem pd_chain {op op' : CmpOp} {r r' : R2} {fn fn' : Sv → Sv → Option Sv} (ho : OpR X (compareOp op) r) (v : VR2 K r fn) (ho' : OpR X (compareOp op') r') (v' : VR2 K r' fn') (ha : PE X a (tW K W f)) (hb : PE X b (tW K W g)) (hc : PE X c (tW K W h))
    (hm : lastMarks [op, op'] [b, c] = false := by with_unfolding_all rfl) : PE X (.Compare a [op, op'] [b, c] pos) (tD K W (fChain fn fn' f g h)) := PE.imp (pe_chain ho ho' ha hb hc hm) fun σ H Q q => tChain_of v v' q
theorem pt_chain2 {op op' : CmpOp} {r r' : R2} {fn fn' : Sv → Sv → Option Sv} (ho : OpR X (compareOp op) r) (v : VR2 K r fn) (ho' : OpR X (compareOp op') r') (v' : VR2 K r' fn') (ha : PE X a (tW K W f)) (hb : PE X b (tW K W g)) (hc : PE X c (tW K W h))
    (hm : lastMarks [op, op'] [b, c] = false := by with_unfolding_all rfl) : PT X (.Compare a [op, op'] [b, c] pos) (tB' K W (fT (fChain fn fn' f g h))) := PT.imp (pt_chain ho ho' ha hb hc hm) fun σ H Q t =>
  tT_of (f := fChain fn fn' f g h) (fun _ _ _ z => tChain_of v v' (tWD z)) σ H Q t
/-- what was made is frozen -/
def fFz (f : Env → M Sv) : Env → M Sv := fun env => bd (f env) fun x => M.ok (0, x.2)
theorem Gr.fz {K : Fg} {F H F' H' : Hp} {n : Nat} {d : D} {v : V} {fp : List Addr} (g : Gr F H F' H') (o : Ow K F' H' n d v fp) (nw : ∀ a ∈ fp, H a = none) : Gr F H (DP.frz F' H' fp) H' ∧ Rp K (DP.frz F' H' fp) d v := by
  have z : ∀ a ∈ fp, F' a = none := fun a m => (o.fp a m).1
  refine ⟨⟨g.ff.tr (frz_ex z), g.hh, frz_fh g.fh, fun a u e nt => ?_⟩, Ow.frozen (frz_ex z) (fun a m => frz_in m) o⟩
  rw [frz_out fun m => by rw [nw a m] at e; cases e]
  exact g.nw a u e nt
theorem pd_fz (ha : PE X a (tD K W f)) : PE X a (tD K W (fFz f)) := PE.imp ha fun σ H Q ⟨F0, H0, F, env, s, o⟩ => by
  have o : Out (fFz f env) (EvOk K F H Q) (ExOk K F H W σ) := o
  refine tD.out s (Out.imp o.bd (fun x ox => ?_) fun _ k => k)
  intro v F1 H1 fp g1 w1 nd nw
  obtain ⟨g2, r⟩ := g1.fz w1 nw
  exact (ox.ok rfl).z g2 r

/-! ### arguments -/
theorem Al.mono {F H F' H' : Hp} (g : Gr F H F' H') : ∀ {xs : List Sv} {vs : List V} {fp : List Addr}, Al K F H xs vs fp → Al K F' H' xs vs fp
  | [], _, _, h => h
  | x :: xs, _, _, ⟨v, r, f1, f2, h1, h2, h3, h4⟩ => ⟨v, r, f1, f2, h1, h2, h3.mono g, Al.mono g h4⟩
theorem Al.fp {F H : Hp} : ∀ {xs : List Sv} {vs : List V} {fp : List Addr}, Al K F H xs vs fp → ∀ a ∈ fp, F a = none ∧ ∃ o, H a = some o
  | [], _, _, h, a, m => by rw [h.2] at m; cases m
  | x :: xs, _, _, ⟨v, r, f1, f2, h1, h2, h3, h4⟩, a, m => by
    subst h2
    rcases List.mem_append.mp m with m | m
    · exact h3.fp a m
    · exact Al.fp h4 a m
def fNil : Env → M (List Sv) := fun _ => M.ok []
def fCons (f : Env → M Sv) (g : Env → M (List Sv)) : Env → M (List Sv) := fun env => bd (f env) fun x => bd (g env) fun xs => M.ok (x :: xs)
theorem tA.out {f : Env → M (List Sv)} {F0 H0 F H : Hp} {σ : St} {env : Env} {Q : List V → Hp → Prop} (s : SR K F0 H0 F H σ env) (o : Out (f env) (fun xs => ∀ vs F' H' fp, Gr F H F' H' → Al K F' H' xs vs fp → fp.Nodup → (∀ a ∈ fp, H a = none) → Q vs H') (ExOk K F H W σ)) : tA K W f σ H Q := ⟨F0, H0, F, env, s, o⟩
theorem tAw.out {f : Env → M (List Sv)} {F0 H0 F H : Hp} {σ : St} {env : Env} {Q : List V → Hp → Prop} (s : SR K F0 H0 F H σ env) (o : Out (f env) (fun xs => ∀ vs F' H' fp, Gr F H F' H' → Al K F' H' xs vs fp → Q vs H') (ExOk K F H W σ)) : tAw K W f σ H Q := ⟨F0, H0, F, env, s, o⟩
theorem pd_nil : PA X [] (tA K W fNil) := PA.imp pa_nil fun σ H Q ⟨F0, H0, F, env, s, o⟩ => by
  have o : Out (fNil env) (fun xs => ∀ vs F' H' fp, Gr F H F' H' → Al K F' H' xs vs fp → fp.Nodup → (∀ a ∈ fp, H a = none) → Q vs H') (ExOk K F H W σ) := o
  exact o.ok rfl [] F H [] (Gr.refl s.fh) ⟨rfl, rfl⟩ List.nodup_nil fun _ m => by cases m
theorem pd_nilw : PA X [] (tAw K W fNil) := PA.imp pa_nil fun σ H Q ⟨F0, H0, F, env, s, o⟩ => by
  have o : Out (fNil env) (fun xs => ∀ vs F' H' fp, Gr F H F' H' → Al K F' H' xs vs fp → Q vs H') (ExOk K F H W σ) := o
  exact o.ok rfl [] F H [] (Gr.refl s.fh) ⟨rfl, rfl⟩
theorem pd_cons {es : List Expr} {gs : Env → M (List Sv)} (ha : PE X a (tD K W f)) (hr : PA X es (tA K W gs)) (hs : starEach (a :: es) X.env = (false, eval a X.env) :: starEach es X.env := by rfl) : PA X (a :: es) (tA K W (fCons f gs)) := PA.imp (pa_cons ha hr hs) fun σ H Q ⟨F0, H0, F, env, s, o⟩ => by
  have o : Out (fCons f gs env) (fun xs => ∀ vs F' H' fp, Gr F H F' H' → Al K F' H' xs vs fp → fp.Nodup → (∀ a ∈ fp, H a = none) → Q vs H') (ExOk K F H W σ) := o
  refine tD.out s (Out.imp o.bd (fun x ox => ?_) fun _ k => k)
  intro v1 F1 H1 fp g1 w1 nd1 nw1
  refine tA.out (s.on g1) (Out.imp ox.bd (fun xs oxs => ?_) fun _ k => k.on g1)
  intro vs F2 H2 fq g2 w2 nd2 nw2
  refine oxs.ok rfl (v1 :: vs) F2 H2 (fp ++ fq) (g1.trans g2) ⟨v1, vs, fp, fq, rfl, rfl, w1.mono g2, w2⟩ ?_ fun a m => ?_
  · rw [List.nodup_append]
    refine ⟨nd1, nd2, fun a ha b hb z => ?_⟩
    subst z
    obtain ⟨_, o', ho⟩ := w1.fp a ha
    rw [nw2 a hb] at ho; cases ho
  · rcases List.mem_append.mp m with m | m
    · exact nw1 a m
    · exact g1.hh.back (nw2 a m)
theorem pd_consw {es : List Expr} {gs : Env → M (List Sv)} (ha : PE X a (tW K W f)) (hr : PA X es (tAw K W gs)) (hs : starEach (a :: es) X.env = (false, eval a X.env) :: starEach es X.env := by rfl) : PA X (a :: es) (tAw K W (fCons f gs)) := PA.imp (pa_cons ha hr hs) fun σ H Q ⟨F0, H0, F, env, s, o⟩ => by
  have o : Out (fCons f gs env) (fun xs => ∀ vs F' H' fp, Gr F H F' H' → Al K F' H' xs vs fp → Q vs H') (ExOk K F H W σ) := o
  refine tW.out s (Out.imp o.bd (fun x ox => ?_) fun _ k => k)
  intro v1 F1 H1 fp g1 w1
  refine tAw.out (s.on g1) (Out.imp ox.bd (fun xs oxs => ?_) fun _ k => k.on g1)
  intro vs F2 H2 fq g2 w2
  exact oxs.ok rfl (v1 :: vs) F2 H2 (fp ++ fq) (g1.trans g2) ⟨v1, vs, fp, fq, rfl, rfl, w1.mono g2, w2⟩

/-! ### displays -/
theorem Al.len {F H : Hp} : ∀ {xs : List Sv} {vs : List V} {fp : List Addr}, Al K F H xs vs fp → vs.length = xs.length
  | [], _, _, h => by rw [h.1]; rfl
  | x :: xs, _, _, ⟨v, r, f1, f2, h1, h2, h3, h4⟩ => by rw [h1, List.length_cons, List.length_cons, Al.len h4]
theorem Al.owl {F H : Hp} {n : Nat} : ∀ {xs : List Sv} {vs : List V} {fp : List Addr}, Al K F H xs vs fp → (xs.all fun x => x.1 == n) = true → OwL (Ow K F H n) (xs.map (·.2)) vs fp
  | [], _, _, h, _ => h
  | x :: xs, _, _, ⟨v, r, f1, f2, h1, h2, h3, h4⟩, q => by
    rw [List.all_cons, Bool.and_eq_true] at q
    have e : x.1 = n := beq_iff_eq.mp q.1
    rw [e] at h3
    exact ⟨v, r, f1, f2, h1, h2, h3, Al.owl h4 q.2⟩
def oLst (n : Nat) (xs : List Sv) : Option Sv := if (xs.all fun x => x.1 == n) = true ∧ xs.length ≤ sizeLine then some (n + 1, .lst (xs.map (·.2))) else none
def oTup (xs : List Sv) : Option Sv := if (xs.all fun x => x.1 == 0) = true ∧ xs.length ≤ sizeLine then some (0, .tup (xs.map (·.2))) else none
def fLst (n : Nat) (f : Env → M (List Sv)) : Env → M Sv := fun env => bd (f env) fun xs => lf (oLst n xs)
def fTup (f : Env → M (List Sv)) : Env → M Sv := fun env => bd (f env) fun xs => lf (oTup xs)
theorem pd_lst {es : List Expr} {gs : Env → M (List Sv)} (n : Nat) (ha : PA X es (tA K W gs)) : PE X (.List es pos) (tD K W (fLst n gs)) := PE.imp (pe_lst ha) fun σ H Q ⟨F0, H0, F, env, s, o⟩ => by
  have o : Out (fLst n gs env) (EvOk K F H Q) (ExOk K F H W σ) := o
  refine tA.out s (Out.imp o.bd (fun xs ox => ?_) fun _ k => k)
  intro vs F1 H1 fp g1 w1 nd nw
  obtain ⟨z, ez, kz⟩ := ox.lf
  unfold oLst at ez
  by_cases c : (xs.all fun x => x.1 == n) = true ∧ xs.length ≤ sizeLine
  · rw [if_pos c] at ez
    cases ez
    refine ⟨by rw [w1.len]; exact c.2, fun p hp => ?_⟩
    refine kz (.ref p) F1 (upd H1 p (.lst vs)) (p :: fp) (g1.trans (Gr.own g1.fh hp)) ⟨p, _, fp, rfl, g1.fh.back hp, upd_same, rfl, (w1.mono (Gr.own g1.fh hp)).owl c.1⟩ ?_ fun a m => ?_
    · rw [List.nodup_cons]
      refine ⟨fun m => ?_, nd⟩
      obtain ⟨_, o', ho⟩ := w1.fp p m
      rw [hp] at ho; cases ho
    · rcases List.mem_cons.mp m with m | m
      · rw [m]; exact g1.hh.back hp
      · exact nw a m
  · rw [if_neg c] at ez; cases ez
theorem pd_tup {es : List Expr} {x1} {gs : Env → M (List Sv)} (ha : PA X es (tA K W gs)) : PE X (.Tuple es x1 pos) (tD K W (fTup gs)) := PE.imp (pe_tup ha) fun σ H Q ⟨F0, H0, F, env, s, o⟩ => by
  have o : Out (fTup gs env) (EvOk K F H Q) (ExOk K F H W σ) := o
  refine tA.out s (Out.imp o.bd (fun xs ox => ?_) fun _ k => k)
  intro vs F1 H1 fp g1 w1 nd nw
  obtain ⟨z, ez, kz⟩ := ox.lf
  unfold oTup at ez
  by_cases c : (xs.all fun x => x.1 == 0) = true ∧ xs.length ≤ sizeLine
  · rw [if_pos c] at ez
    cases ez
    refine ⟨by rw [w1.len]; exact c.2, fun p hp => ?_⟩
    exact (kz.on g1).newT g1.fh (w1.owl c.1).one.2 hp
  · rw [if_neg c] at ez; cases ez

/-! ### subscripts -/
theorem RpL.atI {F : Hp} {ds : List D} {vs : List V} {i : Int} {d : D} (h : RpL K F ds vs) (e : atI ds i = some d) : ∃ v, L2.atI vs i = some v ∧ Rp K F d v := by
  unfold L2.atI at e ⊢
  rw [← h.len]
  cases q : ixN ds.length i with
  | none => rw [q] at e; cases e
  | some j =>
    rw [q, Option.bind_some] at e
    obtain ⟨v, e1, e2⟩ := h.get e
    exact ⟨v, e1, e2⟩
def oIx : Sv → Sv → Option Sv := fun p q => match q.2 with
  | .int i => match seqOf p with
    | some ds => (atI ds i).map fun d => ((0, d) : Sv)
    | none => match p.2 with
      | .str x => if x.length ≤ sizeLine then (atI x.cps.toList i).map fun c => ((0, .str ⟨#[c]⟩) : Sv) else none
      | _ => none
  | _ => none
theorem vIx : VR2 K (rIx K) oIx := by
  intro F H x y p q fp fq z Q e w1 w2 h k
  obtain ⟨m, d'⟩ := q
  cases d' <;> first | (cases h; done) | skip
  rename_i i
  have ey := w2.int
  unfold oIx at h
  dsimp only at h
  cases s : seqOf p with
  | some ds =>
    rw [s] at h
    dsimp only at h
    cases q : atI ds i with
    | none => rw [q] at h; cases h
    | some d =>
      rw [q] at h
      cases h
      obtain ⟨a, vs, rfl, h2, h3⟩ := w1.seq e s
      obtain ⟨v, e1, e2⟩ := h3.atI q
      rcases h2 with h2 | h2
      · exact .inl ⟨a, vs, i, v, rfl, ey, h2, e1, k.fl e e2⟩
      · exact .inr (.inl ⟨a, vs, i, v, rfl, ey, h2, e1, k.fl e e2⟩)
  | none =>
    rw [s] at h
    dsimp only at h
    obtain ⟨n, d⟩ := p
    cases d <;> first | (cases h; done) | skip
    rename_i x
    dsimp only at h
    by_cases c : x.length ≤ sizeLine
    · rw [if_pos c] at h
      cases q : atI x.cps.toList i with
      | none => rw [q] at h; cases h
      | some u =>
        rw [q] at h
        cases h
        exact .inr (.inr ⟨x, i, u, w1.str, ey, c, q, k.fl e rfl⟩)
    · rw [if_neg c] at h; cases h
theorem pd_ix (ha : PE X a (tW X.K W f)) (hb : PE X b (tW X.K W g)) (hs : PlainIx b) : PE X (.Subscript a b pos) (tD X.K W (f2 oIx f g)) := PE.imp (pe_ix ix_seq ha hb hs) fun _ _ _ t => t2_of vIx t
end
end DP
/-! DP: calls of built-ins by values; what a loop or a comprehension walks. -/
namespace DP
open PySem L2
section
variable {X : Cx} {K : Fg} {W : WX} {a b c : Expr} {es : List Expr} {pos : Pos} {f g h : Env → M Sv} {gs : Env → M (List Sv)}

/-! ### calls of built-ins -/
def VRC (K : Fg) (r : List V → Hp → VK → Prop) (op : List Sv → Option Sv) : Prop := ∀ (F H : Hp) (vs : List V) (xs : List Sv) (fp : List Addr) (z : Sv) (Q : VK), Ex F H → Al K F H xs vs fp → op xs = some z → EvOk K F H Q z → r vs H Q
def fC (op : List Sv → Option Sv) (f : Env → M (List Sv)) : Env → M Sv := fun env => bd (f env) fun xs => lf (op xs)
theorem tC_of {r : List V → Hp → VK → Prop} {op : List Sv → Option Sv} (v : VRC K r op) {σ : St} {H : Hp} {Q : VK} (t : tD K W (fC op gs) σ H Q) : tCB r (tAw K W gs) σ H Q := by
  obtain ⟨F0, H0, F, env, s, o⟩ := t
  have o : Out (fC op gs env) (EvOk K F H Q) (ExOk K F H W σ) := o
  refine tAw.out s (Out.imp o.bd (fun xs ox => ?_) fun _ k => k)
  intro vs F1 H1 fp g1 w1
  obtain ⟨z, ez, kz⟩ := ox.lf
  exact v F1 H1 vs xs fp z Q g1.fh w1 ez (kz.on g1)
theorem pd_callB {x : Str} {p : Pos} {id : String} {r : List V → Hp → VK → Prop} {op : List Sv → Option Sv} (hc : CallR X (.builtin id) r) (v : VRC K r op) (hg : Gl X x) (hm : X.mg x = none) (hv : bootBuiltins x = some (.builtin id)) (ha : PA X (a :: es) (tAw K W gs)) (hn : x ≠ "__name__" := by decide) (hdb : (x == ("__debug__" : Str)) = false := by decide)
    (he : starEach (a :: es) X.env = (false, eval a X.env) :: starEach es X.env := by rfl) (hpl : (backTo pos (starEach es X.env)).any (·.1) = false := by rfl) : PE X (.Call (.Name x p) (a :: es) [] pos) (tD K W (fC op gs)) :=
  PE.imp (pe_callB hc hg hm hv ha hn hdb he hpl) fun _ _ _ t => tC_of v t
theorem pd_callTy {x : Str} {p : Pos} {T : String} {r : List V → Hp → VK → Prop} {op : List Sv → Option Sv} (hc : CallR X (.type T) r) (v : VRC K r op) (hg : Gl X x) (hm : X.mg x = none) (hv : bootBuiltins x = some (.type T)) (ha : PA X (a :: es) (tAw K W gs)) (hn : x ≠ "__name__" := by decide) (hdb : (x == ("__debug__" : Str)) = false := by decide)
    (he : starEach (a :: es) X.env = (false, eval a X.env) :: starEach es X.env := by rfl) (hpl : (backTo pos (starEach es X.env)).any (·.1) = false := by rfl) : PE X (.Call (.Name x p) (a :: es) [] pos) (tD K W (fC op gs)) :=
  PE.imp (pe_callTy hc hg hm hv ha hn hdb he hpl) fun _ _ _ t => tC_of v t
/-- one argument -/
theorem Al.one {F H : Hp} {x : Sv} {vs : List V} {fp : List Addr} (h : Al K F H [x] vs fp) : ∃ v, vs = [v] ∧ Ow K F H x.1 x.2 v fp := by
  obtain ⟨v, r, f1, f2, h1, h2, h3, h4⟩ := h
  obtain ⟨e1, e2⟩ := h4
  subst e1 e2
  exact ⟨v, h1, by rw [h2, List.append_nil]; exact h3⟩
theorem Al.two {F H : Hp} {x y : Sv} {vs : List V} {fp : List Addr} (h : Al K F H [x, y] vs fp) : ∃ v u f1 f2, vs = [v, u] ∧ Ow K F H x.1 x.2 v f1 ∧ Ow K F H y.1 y.2 u f2 := by
  obtain ⟨v, r, f1, f2, h1, h2, h3, h4⟩ := h
  obtain ⟨u, e1, h5⟩ := Al.one h4
  subst e1
  exact ⟨v, u, f1, f2, h1, h3, h5⟩
def c1 (op : Sv → Option Sv) : List Sv → Option Sv := fun xs => match xs with | [x] => op x | _ => none
def c2 (op : Sv → Sv → Option Sv) : List Sv → Option Sv := fun xs => match xs with | [x, y] => op x y | _ => none
theorem c1_some {op : Sv → Option Sv} {xs : List Sv} {z : Sv} (h : c1 op xs = some z) : ∃ x, xs = [x] ∧ op x = some z := by
  rcases xs with _ | ⟨x, _ | ⟨y, r⟩⟩
  · cases h
  · exact ⟨x, rfl, h⟩
  · cases h
theorem c2_some {op : Sv → Sv → Option Sv} {xs : List Sv} {z : Sv} (h : c2 op xs = some z) : ∃ x y, xs = [x, y] ∧ op x y = some z := by
  rcases xs with _ | ⟨x, _ | ⟨y, _ | ⟨w, r⟩⟩⟩
  · cases h
  · cases h
  · exact ⟨x, y, rfl, h⟩
  · cases h
theorem vC1 {r : List V → Hp → VK → Prop} {op : Sv → Option Sv} (q : ∀ (F H : Hp) (v : V) (n : Nat) (d : D) (fp : List Addr) (z : Sv) (Q : VK), Ex F H → Ow K F H n d v fp → op (n, d) = some z → EvOk K F H Q z → r [v] H Q) : VRC K r (c1 op) := by
  intro F H vs xs fp z Q e w h k
  obtain ⟨⟨n, d⟩, e1, h2⟩ := c1_some h
  subst e1
  obtain ⟨v, e2, w2⟩ := w.one
  subst e2
  exact q F H v n d fp z Q e w2 h2 k
/-- len -/
def oLen : Sv → Option Sv := fun p => match p with
  | (_, .str x) => if x.length ≤ sizeLine then some (0, .int x.length) else none
  | (_, .tup x) => some (0, .int x.length)
  | (_, .lst x) => some (0, .int x.length)
  | (_, .sl x) => some (0, .int x.length)
  | (n, .dK k x) => if n ≤ 1 then some (0, .int x.length) else none
  | (n, .dT k x) => if n ≤ 1 then some (0, .int x.length) else none
  | _ => none
def rLen' (K : Fg) : List V → Hp → VK → Prop := fun xs H Q => (∃ x n, xs = [x] ∧ LenV K x H n ∧ Q (.int n) H) ∨ (∃ a kvs, xs = [V.ref a] ∧ H a = some (.dK kvs) ∧ Q (.int kvs.length) H) ∨ rLenT xs H Q
theorem call_len' : CallR X (.builtin "len") (rLen' X.K) := call_len.or (call_lenD.or call_len_dT)
theorem vLen : VRC K (rLen' K) (c1 oLen) := by
  refine vC1 fun F H v n d fp z Q e w h k => ?_
  cases d <;> first | (cases h; done) | skip
  · rename_i x
    have h' : (if x.length ≤ sizeLine then some ((0, .int x.length) : Sv) else none) = some z := h
    by_cases c : x.length ≤ sizeLine
    · rw [if_pos c] at h'; cases h'
      exact .inl ⟨v, x.length, rfl, by rw [w.str]; exact ⟨c, rfl⟩, k.fl e rfl⟩
    · rw [if_neg c] at h'; cases h'
  · cases h
    obtain ⟨_, a, vs, rfl, h2, h3⟩ := w.tup e
    exact .inl ⟨_, vs.length, rfl, .inr ⟨vs, SqT.of h2, rfl⟩, by rw [← h3.len]; exact k.fl e rfl⟩
  · cases h
    obtain ⟨a, vs, rfl, h2, h3⟩ := w.lstn e
    exact .inl ⟨_, vs.length, rfl, .inl ⟨vs, SqL.of h2, rfl⟩, by rw [← h3]; exact k.fl e rfl⟩
  · cases h
    obtain ⟨_, a, vs, rfl, h2, h3⟩ := w.sl e
    exact .inl ⟨_, vs.length, rfl, .inl ⟨vs, h2, rfl⟩, by rw [← h3.len]; exact k.fl e rfl⟩
  · rename_i ks x
    have h' : (if n ≤ 1 then some ((0, .int x.length) : Sv) else none) = some z := h
    by_cases c : n ≤ 1
    · rw [if_pos c] at h'; cases h'
      obtain ⟨a, ws, rfl, h2, h3, h4⟩ := w.dK e c
      have l := h4.len
      rw [List.length_map] at l
      exact .inr (.inl ⟨a, ws, rfl, h2, by rw [← l]; exact k.fl e rfl⟩)
    · rw [if_neg c] at h'; cases h'
  · rename_i ks x
    have h' : (if n ≤ 1 then some ((0, .int x.length) : Sv) else none) = some z := h
    by_cases c : n ≤ 1
    · rw [if_pos c] at h'; cases h'
      obtain ⟨a, ws, rfl, h2, h3, h4⟩ := w.dT e c
      have l := h4.len
      rw [List.length_map] at l
      exact .inr (.inr ⟨a, ws, rfl, h2, by rw [← l]; exact k.fl e rfl⟩)
    · rw [if_neg c] at h'; cases h'
/-- str of an int -/
def oStr : Sv → Option Sv := fun p => match p.2 with | .int i => if i.natAbs.log2 < 1920 then some (0, .str (toString i)) else none | _ => none
theorem vStr : VRC K (fun xs H Q => ∃ i, xs = [.int i] ∧ i.natAbs.log2 < 1920 ∧ Q (.str (toString i)) H) (c1 oStr) := by
  refine vC1 fun F H v n d fp z Q e w h k => ?_
  cases d <;> first | (cases h; done) | skip
  rename_i i
  have h' : (if i.natAbs.log2 < 1920 then some ((0, .str (toString i)) : Sv) else none) = some z := h
  by_cases c : i.natAbs.log2 < 1920
  · rw [if_pos c] at h'; cases h'
    exact ⟨i, by rw [w.int], c, k.fl e rfl⟩
  · rw [if_neg c] at h'; cases h'
/-- list(xs): a new list -/
def oList : Sv → Option Sv := fun p => (seqOf p).map fun ds => ((1, .lst ds) : Sv)
theorem vList : VRC K (fun xs H Q => ∃ p ys, xs = [.ref p] ∧ (SqL K H p ys ∨ SqT K H p ys) ∧ ∀ l, H l = none → Q (.ref l) (upd H l (.lst ys))) (c1 oList) := by
  refine vC1 fun F H v n d fp z Q e w h k => ?_
  unfold oList at h
  cases q : seqOf (n, d) with
  | none => rw [q] at h; cases h
  | some ds =>
    rw [q] at h; cases h
    obtain ⟨a, vs, rfl, h2, h3⟩ := w.seq e q
    exact ⟨a, vs, rfl, h2, fun l hl => k.newL e h3 hl⟩
/-- all of a list of truths -/
def bls : List D → Option (List Bool)
  | [] => some []
  | .bl i :: r => (bls r).map (i :: ·)
  | _ :: _ => none
theorem bls_map : ∀ (ns : List Bool), bls (ns.map D.bl) = some ns
  | [] => rfl
  | n :: ns => by show (bls (ns.map D.bl)).map (n :: ·) = _; rw [bls_map ns]; rfl
theorem bls_some : ∀ {ds : List D} {ns : List Bool}, bls ds = some ns → ds = ns.map D.bl
  | [], ns, h => by cases h; rfl
  | d :: r, ns, h => by
    cases d <;> first | (cases h; done) | skip
    rename_i i
    have h' : (bls r).map (i :: ·) = some ns := h
    cases q : bls r with
    | none => rw [q] at h'; cases h'
    | some m => rw [q] at h'; cases h'; rw [List.map_cons, bls_some q]
theorem RpL.blsV {F : Hp} : ∀ {ns : List Bool} {vs : List V}, RpL K F (ns.map D.bl) vs → vs = ns.map V.bl
  | [], _, h => h
  | n :: ns, _, ⟨v, r, h1, h2, h3⟩ => by rw [h1, (show v = .bl n from h2), RpL.blsV h3]; rfl
def oAll : Sv → Option Sv := fun p => match p with
  | (n, .lst x) => if n ≤ 1 then (bls x).map fun bs => ((0, .bl (bs.all id)) : Sv) else none
  | _ => none
theorem vAll : VRC K (rAll K) (c1 oAll) := by
  refine vC1 fun F H v n d fp z Q e w h k => ?_
  cases d <;> first | (cases h; done) | skip
  rename_i x
  have h' : (if n ≤ 1 then (bls x).map fun bs => ((0, .bl (bs.all id)) : Sv) else none) = some z := h
  by_cases c : n ≤ 1
  · rw [if_pos c] at h'
    cases q : bls x with
    | none => rw [q] at h'; cases h'
    | some bs =>
      rw [q] at h'; cases h'
      obtain ⟨a, vs, rfl, h2, h3⟩ := w.lst e c
      rw [bls_some q] at h3
      rw [h3.blsV] at h2
      exact ⟨a, bs, rfl, SqL.of h2, k.fl e rfl⟩
  · rw [if_neg c] at h'; cases h'
/-- sum of a list of ints -/
def oSum : Sv → Option Sv := fun p => match p with
  | (n, .lst x) => if n ≤ 1 then (intsOf x).map fun bs => ((0, .int bs.sum) : Sv) else none
  | _ => none
theorem vSum : VRC K (rSum K) (c1 oSum) := by
  refine vC1 fun F H v n d fp z Q e w h k => ?_
  cases d <;> first | (cases h; done) | skip
  rename_i x
  have h' : (if n ≤ 1 then (intsOf x).map fun bs => ((0, .int bs.sum) : Sv) else none) = some z := h
  by_cases c : n ≤ 1
  · rw [if_pos c] at h'
    cases q : intsOf x with
    | none => rw [q] at h'; cases h'
    | some bs =>
      rw [q] at h'; cases h'
      obtain ⟨a, vs, rfl, h2, h3⟩ := w.lst e c
      rw [intsOf_some q] at h3
      rw [h3.intsV] at h2
      exact ⟨a, bs, rfl, SqL.of h2, k.fl e rfl⟩
  · rw [if_neg c] at h'; cases h'
/-- isinstance(x, T), T a built-in type -/
def tyD : D → Option String
  | .non => some "NoneType" | .bl _ => some "bool" | .int _ => some "int" | .str _ => some "str" | .tup _ => some "tuple" | .lst _ => some "list" | .dK _ _ => some "dict" | .dT _ _ => some "dict" | _ => none
theorem Rp.ty {F H : Hp} {d : D} {v : V} {t : String} (e : Ex F H) (h : Rp K F d v) (q : tyD d = some t) : TyX K H v (.type t) := by
  cases d <;> first | (cases q; done) | skip
  · cases q; cases h; exact .base .non
  · cases q; cases h; exact .base (.bl _)
  · cases q; cases h; exact .base (.int _)
  · cases q; cases h; exact .base (.str _)
  · cases q; obtain ⟨a, vs, rfl, h2, _⟩ := h; exact .base (.tup (e _ _ h2))
  · cases q; obtain ⟨a, vs, rfl, h2, _⟩ := h; exact .base (.lst (e _ _ h2))
  · cases q; obtain ⟨a, vs, rfl, h2, _⟩ := h; exact .base (.dK (e _ _ h2))
  · cases q; obtain ⟨a, vs, rfl, h2, _⟩ := h; exact .base (.dT (e _ _ h2))
def oIsi (T : String) : Sv → Option Sv := fun p => (tyD p.2).bind fun a => (kitB a T).map fun r => ((0, .bl r) : Sv)
def fIsi (T : String) (f : Env → M Sv) : Env → M Sv := f1 (oIsi T) f
theorem pd_isi {p q : Pos} {T : String} {x : Str} (ha : PE X a (tW X.K W f)) (hg : Gl X "isinstance") (hm : X.mg "isinstance" = none) (hgT : Gl X x) (hmT : X.mg x = none) (hvT : bootBuiltins x = some (.type T)) (hn : x ≠ "__name__" := by decide) (hdb : (x == ("__debug__" : Str)) = false := by decide)
    (he : starEach [a, .Name x q] X.env = (false, eval a X.env) :: starEach [.Name x q] X.env := by rfl) (hpl : (backTo pos (starEach [.Name x q] X.env)).any (·.1) = false := by rfl) (hs : starEach [.Name x q] X.env = (false, eval (.Name x q) X.env) :: starEach [] X.env := by rfl) :
    PE X (.Call (.Name "isinstance" p) [a, .Name x q] [] pos) (tD X.K W (fIsi T f)) :=
  PE.imp (pe_callB call_isi hg hm (by decide +kernel) (pa_cons ha (pa_cons (pe_bltn (v := .ty T) hgT hmT hvT rfl hn hdb) pa_nil hs) he) (by decide) (by decide) he hpl) fun σ H Q ⟨F0, H0, F, env, s, o⟩ => by
    have o : Out (f1 (oIsi T) f env) (EvOk X.K F H Q) (ExOk X.K F H W σ) := o
    refine tW.out s (Out.imp o.bd (fun y oy => ?_) fun _ k => k)
    intro v F1 H1 fp g1 w1
    obtain ⟨z, ez, kz⟩ := oy.lf
    unfold oIsi at ez
    cases q1 : tyD y.2 with
    | none => rw [q1] at ez; cases ez
    | some t =>
      rw [q1, Option.bind_some] at ez
      cases q2 : kitB t T with
      | none => rw [q2] at ez; cases ez
      | some r =>
        rw [q2] at ez; cases ez
        have r1 : Rp X.K (frz F1 H1 fp) y.2 v := Ow.frozen (frz_ex fun a m => (w1.fp a m).1) (fun a m => frz_in m) w1
        exact ⟨v, .ty T, .type t, .type T, r, rfl, .ty T, r1.ty (frz_fh g1.fh) q1, kit_ty q2, kz.z g1 rfl⟩

/-! ### methods of built-ins -/
def VRM (K : Fg) (T : String) (r : V → List V → Hp → VK → Prop) (op : Sv → List Sv → Option Sv) : Prop := ∀ (F H : Hp) (v : V) (p : Sv) (fp : List Addr) (vs : List V) (xs : List Sv) (fq : List Addr) (z : Sv) (Q : VK), Ex F H → Ow K F H p.1 p.2 v fp → Al K F H xs vs fq → op p xs = some z → EvOk K F H Q z → r v vs H Q
/-- the receiver's type -/
def tyM : Sv → Option String := fun p => match p.2 with | .str _ => some "str" | .lst _ => some "list" | _ => none
theorem tyV_of {F H : Hp} {p : Sv} {v : V} {fp : List Addr} {T : String} (e : Ex F H) (w : Ow K F H p.1 p.2 v fp) (h : tyM p = some T) : tyV K T v H := by
  obtain ⟨n, d⟩ := p
  cases d <;> first | (cases h; done) | skip
  · cases h
    rw [w.str]
    exact rfl
  · cases h
    obtain ⟨a, vs, rfl, h2, _⟩ := w.lstn e
    exact .inl ⟨rfl, _, SqL.of h2⟩
def fM (T : String) (op : Sv → List Sv → Option Sv) (f : Env → M Sv) (gs : Env → M (List Sv)) : Env → M Sv := fun env => bd (f env) fun x => if tyM x = some T then bd (gs env) fun xs => lf (op x xs) else M.no
theorem Out.iff {α : Type} {C : Prop} [Decidable C] {m : M α} {A : α → Prop} {B : XD → Prop} (o : Out (if C then m else M.no) A B) : C ∧ Out m A B := by
  by_cases c : C
  · rw [if_pos c] at o; exact ⟨c, o⟩
  · rw [if_neg c] at o
    rcases o with ⟨_, e, _⟩ | ⟨_, e, _⟩ <;> cases e
theorem tM_of {T : String} {r : V → List V → Hp → VK → Prop} {op : Sv → List Sv → Option Sv} (v : VRM K T r op) {σ : St} {H : Hp} {Q : VK} (t : tD K W (fM T op f gs) σ H Q) : tBM K T r (tW K W f) (tAw K W gs) σ H Q := by
  obtain ⟨F0, H0, F, env, s, o⟩ := t
  have o : Out (fM T op f gs env) (EvOk K F H Q) (ExOk K F H W σ) := o
  refine tW.out s (Out.imp o.bd (fun x ox => ?_) fun _ k => k)
  intro v1 F1 H1 fp g1 w1
  obtain ⟨ht, oy⟩ := ox.iff
  refine ⟨tyV_of g1.fh w1 ht, tAw.out (s.on g1) (Out.imp oy.bd (fun xs oxs => ?_) fun _ k => k.on g1)⟩
  intro vs F2 H2 fq g2 w2
  obtain ⟨z, ez, kz⟩ := oxs.lf
  exact v F2 H2 v1 x fp vs xs fq z Q g2.fh (w1.mono g2) w2 ez (kz.on (g1.trans g2))
theorem pd_m {T : String} {r : V → List V → Hp → VK → Prop} {op : Sv → List Sv → Option Sv} {e : Expr} (v : VRM K T r op) (p : PE X e (tBM K T r (tW K W f) (tAw K W gs))) : PE X e (tD K W (fM T op f gs)) := PE.imp p fun _ _ _ t => tM_of v t
def fM0 (T : String) (op : Sv → List Sv → Option Sv) (f : Env → M Sv) : Env → M Sv := fun env => bd (f env) fun x => if tyM x = some T then lf (op x []) else M.no
theorem pd_m0 {T : String} {r : V → List V → Hp → VK → Prop} {op : Sv → List Sv → Option Sv} {e : Expr} (v : VRM K T r op) (p : PE X e (tBM0 K T r (tW K W f))) : PE X e (tD K W (fM0 T op f)) := PE.imp p fun σ H Q ⟨F0, H0, F, env, s, o⟩ => by
  have o : Out (fM0 T op f env) (EvOk K F H Q) (ExOk K F H W σ) := o
  refine tW.out s (Out.imp o.bd (fun x ox => ?_) fun _ k => k)
  intro v1 F1 H1 fp g1 w1
  obtain ⟨ht, oy⟩ := ox.iff
  obtain ⟨z, ez, kz⟩ := oy.lf
  exact ⟨tyV_of g1.fh w1 ht, v F1 H1 v1 x fp [] [] [] z Q g1.fh w1 ⟨rfl, rfl⟩ ez (kz.on g1)⟩

/-! ### slices -/
def VRS (K : Fg) (r : V → Option Int → Option Int → Hp → VK → Prop) (op : Sv → Option Int → Option Int → Option Sv) : Prop := ∀ (F H : Hp) (v : V) (p : Sv) (fp : List Addr) (lo hi : Option Int) (z : Sv) (Q : VK), Ex F H → Ow K F H p.1 p.2 v fp → op p lo hi = some z → EvOk K F H Q z → r v lo hi H Q
def tO (K : Fg) (W : WX) (f : Env → M (Option Int)) : TO := fun σ H Q => ∃ F0 H0 F env, SR K F0 H0 F H σ env ∧ Out (f env) (fun o => ∀ F' H', Gr F H F' H' → Q o H') (ExOk K F H W σ)
def asI (x : Sv) : M (Option Int) := match x.2 with | .int k => M.ok (some k) | _ => none
def fO0 : Env → M (Option Int) := fun _ => M.ok none
def fO1 (f : Env → M Sv) : Env → M (Option Int) := fun env => bd (f env) asI
theorem po_n : PO X none (tO K W fO0) := ⟨fun pins s σ H Q I h => by
  obtain ⟨F0, H0, F, env, sr, o⟩ := h
  exact po_none.run pins s σ H Q I (o.ok rfl F H (Gr.refl sr.fh))⟩
theorem po_s (he : PE X a (tW K W f)) : PO X (some a) (tO K W (fO1 f)) := ⟨fun pins s σ H Q I h => (po_some he).run pins s σ H Q I (by
  obtain ⟨F0, H0, F, env, sr, o⟩ := h
  refine tW.out sr (Out.imp (Out.bd (show Out (bd (f env) asI) _ _ from o)) (fun x ox => ?_) fun _ k => k)
  intro v F1 H1 fp g1 w1
  obtain ⟨n, d⟩ := x
  cases d <;> first
    | (rcases ox with ⟨_, e, _⟩ | ⟨_, e, _⟩ <;> cases e; done)
    | exact ⟨_, w1.int, ox.ok rfl F1 H1 g1⟩)⟩
def fSl (op : Sv → Option Int → Option Int → Option Sv) (f : Env → M Sv) (l u : Env → M (Option Int)) : Env → M Sv := fun env => bd (f env) fun x => bd (l env) fun i => bd (u env) fun j => lf (op x i j)
theorem tO.out {f : Env → M (Option Int)} {F0 H0 F H : Hp} {σ : St} {env : Env} {Q : Option Int → Hp → Prop} (s : SR K F0 H0 F H σ env) (o : Out (f env) (fun o => ∀ F' H', Gr F H F' H' → Q o H') (ExOk K F H W σ)) : tO K W f σ H Q := ⟨F0, H0, F, env, s, o⟩
theorem pd_sl {lo hi : Option Expr} {l u : Env → M (Option Int)} {r : V → Option Int → Option Int → Hp → VK → Prop} {op : Sv → Option Int → Option Int → Option Sv} {p2 : Pos} (hr : SlR X r) (v : VRS K r op) (he : PE X a (tW K W f)) (hl : PO X lo (tO K W l)) (hu : PO X hi (tO K W u)) :
    PE X (.Subscript a (.Slice lo hi none p2) pos) (tD K W (fSl op f l u)) := PE.imp (pe_slice hr he hl hu) fun σ H Q ⟨F0, H0, F, env, s, o⟩ => by
  have o : Out (fSl op f l u env) (EvOk K F H Q) (ExOk K F H W σ) := o
  refine tW.out s (Out.imp o.bd (fun x ox => ?_) fun _ k => k)
  intro v1 F1 H1 fp g1 w1
  refine tO.out (s.on g1) (Out.imp ox.bd (fun i oi F2 H2 g2 => ?_) fun _ k => k.on g1)
  have g12 := g1.trans g2
  refine tO.out (s.on g12) (Out.imp oi.bd (fun j oj F3 H3 g3 => ?_) fun _ k => k.on g12)
  obtain ⟨z, ez, kz⟩ := oj.lf
  exact v F3 H3 v1 x fp i j z Q g3.fh ((w1.mono g2).mono g3) ez (kz.on (g12.trans g3))
def cutD (xs : List D) (lo hi : Option Int) : List D := (xs.drop (HT.sIx xs.length 0 lo)).take (HT.sIx xs.length xs.length hi - HT.sIx xs.length 0 lo)
theorem RpL.cut {F : Hp} {ds : List D} {vs : List V} (h : RpL K F ds vs) (lo hi : Option Int) : RpL K F (cutD ds lo hi) (cutV vs lo hi) := by
  unfold cutD cutV
  rw [h.len]
  exact (h.drop _).take _
def oSlL : Sv → Option Int → Option Int → Option Sv := fun p lo hi => match p with
  | (n, .lst x) => if n ≤ 1 then some (1, .lst (cutD x lo hi)) else none
  | (_, .sl x) => some (1, .lst (cutD x lo hi))
  | _ => none
theorem vSlL : VRS K (rSlL K) oSlL := by
  intro F H v p fp lo hi z Q e w h k
  obtain ⟨n, d⟩ := p
  cases d <;> first | (cases h; done) | skip
  · rename_i x
    have h' : (if n ≤ 1 then some ((1, .lst (cutD x lo hi)) : Sv) else none) = some z := h
    by_cases c : n ≤ 1
    · rw [if_pos c] at h'; cases h'
      obtain ⟨a, vs, rfl, h2, h3⟩ := w.lst e c
      exact ⟨a, vs, rfl, SqL.of h2, fun q hq => k.newL e (h3.cut lo hi) hq⟩
    · rw [if_neg c] at h'; cases h'
  · cases h
    obtain ⟨_, a, vs, rfl, h2, h3⟩ := w.sl e
    exact ⟨a, vs, rfl, h2, fun q hq => k.newL e (h3.cut lo hi) hq⟩
end
end DP
/-! DP: methods of texts and lists; what is walked; comprehensions. -/
namespace DP
open PySem L2
section
variable {X : Cx} {K : Fg} {W : WX} {a b c : Expr} {es : List Expr} {pos : Pos} {f g h : Env → M Sv} {gs : Env → M (List Sv)}
/-- texts of a list -/
def txs : List D → Option (List Str)
  | [] => some []
  | .str i :: r => (txs r).map (i :: ·)
  | _ :: _ => none
theorem txs_map : ∀ (ns : List Str), txs (ns.map D.str) = some ns
  | [] => rfl
  | n :: ns => by show (txs (ns.map D.str)).map (n :: ·) = _; rw [txs_map ns]; rfl
theorem txs_some : ∀ {ds : List D} {ns : List Str}, txs ds = some ns → ds = ns.map D.str
  | [], ns, h => by cases h; rfl
  | d :: r, ns, h => by
    cases d <;> first | (cases h; done) | skip
    rename_i i
    have h' : (txs r).map (i :: ·) = some ns := h
    cases q : txs r with
    | none => rw [q] at h'; cases h'
    | some m => rw [q] at h'; cases h'; rw [List.map_cons, txs_some q]
theorem RpL.txsV {F : Hp} : ∀ {ns : List Str} {vs : List V}, RpL K F (ns.map D.str) vs → vs = ns.map V.str
  | [], _, h => h
  | n :: ns, _, ⟨v, r, h1, h2, h3⟩ => by rw [h1, (show v = .str n from h2), RpL.txsV h3]; rfl
theorem RpL.txsD {F : Hp} : ∀ (ns : List Str), RpL K F (ns.map D.str) (ns.map V.str)
  | [] => rfl
  | n :: ns => ⟨.str n, _, rfl, rfl, RpL.txsD ns⟩
def m1 (op : Sv → Sv → Option Sv) : Sv → List Sv → Option Sv := fun p xs => match xs with | [x] => op p x | _ => none
theorem vM1 {T : String} {r : V → List V → Hp → VK → Prop} {op : Sv → Sv → Option Sv} (q : ∀ (F H : Hp) (v u : V) (p y : Sv) (fp fq : List Addr) (z : Sv) (Q : VK), Ex F H → Ow K F H p.1 p.2 v fp → Ow K F H y.1 y.2 u fq → op p y = some z → EvOk K F H Q z → r v [u] H Q) : VRM K T r (m1 op) := by
  intro F H v p fp vs xs fq z Q e w ws h k
  rcases xs with _ | ⟨x, _ | ⟨y, r⟩⟩
  · cases h
  · obtain ⟨u, e1, w2⟩ := ws.one
    subst e1
    exact q F H v u p x fp fq z Q e w w2 h k
  · cases h
def oJoin : Sv → Sv → Option Sv := fun p q => match p.2 with
  | .str a => (seqOf q).bind fun ds => (txs ds).bind fun ys => if (ys.map (·.length)).sum + ys.length * a.length ≤ 16777216 then some (0, .str (Txt.join a ys)) else none
  | _ => none
theorem vJoin : VRM K "str" (fun x xs H Q => ∃ a p, ∃ ys : List Str, x = .str a ∧ xs = [.ref p] ∧ (SqL K H p (ys.map V.str) ∨ SqT K H p (ys.map V.str)) ∧
    (ys.map (·.length)).sum + ys.length * a.length ≤ 16777216 ∧ Q (.str (Txt.join a ys)) H) (m1 oJoin) := by
  refine vM1 fun F H v u p y fp fq z Q e w1 w2 h k => ?_
  obtain ⟨n, d⟩ := p
  cases d <;> first | (cases h; done) | skip
  rename_i a
  have h' : ((seqOf y).bind fun ds => (txs ds).bind fun ys => if (ys.map (·.length)).sum + ys.length * a.length ≤ 16777216 then some ((0, .str (Txt.join a ys)) : Sv) else none) = some z := h
  cases q1 : seqOf y with
  | none => rw [q1] at h'; cases h'
  | some ds =>
    rw [q1, Option.bind_some] at h'
    cases q2 : txs ds with
    | none => rw [q2] at h'; cases h'
    | some ys =>
      rw [q2, Option.bind_some] at h'
      by_cases c : (ys.map (·.length)).sum + ys.length * a.length ≤ 16777216
      · rw [if_pos c] at h'; cases h'
        obtain ⟨b, vs, rfl, h2, h3⟩ := w2.seq e q1
        rw [txs_some q2] at h3
        rw [h3.txsV] at h2
        exact ⟨a, b, ys, w1.str, rfl, h2, c, k.fl e rfl⟩
      · rw [if_neg c] at h'; cases h'
def oSplit : Sv → Sv → Option Sv := fun p q => match p.2, q.2 with
  | .str a, .str b => if (b.length == 0) = false ∧ a.length + 2 ≤ sizeLine then some (1, .lst ((Txt.split a b).map D.str)) else none
  | _, _ => none
theorem vSplit : VRM K "str" (fun x xs H Q => ∃ a b, x = .str a ∧ xs = [.str b] ∧ (b.length == 0) = false ∧ a.length + 2 ≤ sizeLine ∧ rNewStrs (Txt.split a b) H Q) (m1 oSplit) := by
  refine vM1 fun F H v u p y fp fq z Q e w1 w2 h k => ?_
  obtain ⟨n, d⟩ := p
  obtain ⟨m, d'⟩ := y
  cases d <;> first | (cases h; done) | skip
  cases d' <;> first | (cases h; done) | skip
  rename_i a b
  have h' : (if (b.length == 0) = false ∧ a.length + 2 ≤ sizeLine then some ((1, .lst ((Txt.split a b).map D.str)) : Sv) else none) = some z := h
  by_cases c : (b.length == 0) = false ∧ a.length + 2 ≤ sizeLine
  · rw [if_pos c] at h'; cases h'
    exact ⟨a, b, w1.str, by rw [w2.str], c.1, c.2, fun q hq => k.newL e (RpL.txsD _) hq⟩
  · rw [if_neg c] at h'; cases h'
def oSlS : Sv → Option Int → Option Int → Option Sv := fun p lo hi => match p.2 with
  | .str x => if x.length ≤ sizeLine then some (0, .str (cutS x lo hi)) else none
  | _ => none
theorem vSlS : VRS K rSlS oSlS := by
  intro F H v p fp lo hi z Q e w h k
  obtain ⟨n, d⟩ := p
  cases d <;> first | (cases h; done) | skip
  rename_i x
  have h' : (if x.length ≤ sizeLine then some ((0, .str (cutS x lo hi)) : Sv) else none) = some z := h
  by_cases c : x.length ≤ sizeLine
  · rw [if_pos c] at h'; cases h'
    exact ⟨x, w.str, c, k.fl e rfl⟩
  · rw [if_neg c] at h'; cases h'

/-! ### what is walked -/
/-- an iterator that yields what stands for ds, one by one -/
structure Wk (K : Fg) (F : Hp) (J : It) (ds : List D) : Prop where
  go : ∀ i F2 H2, Ex F F2 → Ex F2 H2 → i < ds.length → J.go i H2
  stop : ∀ i F2 H2, Ex F F2 → Ex F2 H2 → ds.length ≤ i → J.stop i H2
  yld : ∀ i F2 H2 x H3 d, Ex F F2 → Ex F2 H2 → ds[i]? = some d → J.yld i H2 x H3 → ∃ F3, Gr F2 H2 F3 H3 ∧ Rp K F3 d x
def tI (K : Fg) (W : WX) (f : Env → M (List D)) : TI := fun σ H R => ∃ F0 H0 F env, SR K F0 H0 F H σ env ∧ Out (f env) (fun ds => ∀ J F' H', Gr F H F' H' → Wk K F' J ds → R J H') (ExOk K F H W σ)
theorem Wk.lst {F : Hp} {l : Addr} {ds : List D} {vs : List V} (h : F l = some (.lst vs)) (r : RpL K F ds vs) : Wk K F (Itl K l) ds where
  go := fun i F2 H2 e1 e2 hi => by
    obtain ⟨v, hv, _⟩ := r.get (List.getElem?_eq_getElem hi)
    exact ⟨vs, v, SqL.of (e2 _ _ (e1 _ _ h)), hv⟩
  stop := fun i F2 H2 e1 e2 hi => ⟨vs, SqL.of (e2 _ _ (e1 _ _ h)), by rw [← r.len]; exact hi⟩
  yld := fun i F2 H2 x H3 d e1 e2 hd y => by
    obtain ⟨rfl, hx⟩ := y
    obtain ⟨v, hv, rv⟩ := r.get hd
    have z := hx vs (SqL.of (e2 _ _ (e1 _ _ h)))
    rw [hv] at z; cases z
    exact ⟨F2, Gr.refl e2, rv.mono e1⟩
theorem Wk.sl {F : Hp} {l : Addr} {ds : List D} {vs : List V} (h : SqL K F l vs) (r : RpL K F ds vs) : Wk K F (Itl K l) ds where
  go := fun i F2 H2 e1 e2 hi => by
    obtain ⟨v, hv, _⟩ := r.get (List.getElem?_eq_getElem hi)
    exact ⟨vs, v, e2.sqL (e1.sqL h), hv⟩
  stop := fun i F2 H2 e1 e2 hi => ⟨vs, e2.sqL (e1.sqL h), by rw [← r.len]; exact hi⟩
  yld := fun i F2 H2 x H3 d e1 e2 hd y => by
    obtain ⟨rfl, hx⟩ := y
    obtain ⟨v, hv, rv⟩ := r.get hd
    have z := hx vs (e2.sqL (e1.sqL h))
    rw [hv] at z; cases z
    exact ⟨F2, Gr.refl e2, rv.mono e1⟩
theorem Wk.tup {F : Hp} {l : Addr} {ds : List D} {vs : List V} (h : F l = some (.tup vs)) (r : RpL K F ds vs) : Wk K F (Itt K l) ds where
  go := fun i F2 H2 e1 e2 hi => by
    obtain ⟨v, hv, _⟩ := r.get (List.getElem?_eq_getElem hi)
    exact ⟨vs, v, SqT.of (e2 _ _ (e1 _ _ h)), hv⟩
  stop := fun i F2 H2 e1 e2 hi => ⟨vs, SqT.of (e2 _ _ (e1 _ _ h)), by rw [← r.len]; exact hi⟩
  yld := fun i F2 H2 x H3 d e1 e2 hd y => by
    obtain ⟨rfl, hx⟩ := y
    obtain ⟨v, hv, rv⟩ := r.get hd
    have z := hx vs (SqT.of (e2 _ _ (e1 _ _ h)))
    rw [hv] at z; cases z
    exact ⟨F2, Gr.refl e2, rv.mono e1⟩
def rgD (lo : Int) (n : Nat) : List D := (List.range n).map fun i => D.int (lo + (i : Nat))
theorem rgD_len (lo : Int) (n : Nat) : (rgD lo n).length = n := by unfold rgD; rw [List.length_map, List.length_range]
theorem rgD_get {lo : Int} {n i : Nat} {d : D} (h : (rgD lo n)[i]? = some d) : d = .int (lo + (i : Nat)) := by
  unfold rgD at h
  rw [List.getElem?_map] at h
  cases q : (List.range n)[i]? with
  | none => rw [q] at h; cases h
  | some j =>
    rw [q] at h; cases h
    have := List.getElem?_eq_some_iff.mp q
    obtain ⟨h1, h2⟩ := this
    rw [List.getElem_range] at h2
    rw [← h2]
theorem Wk.rng {F : Hp} (lo : Int) (n : Nat) : Wk K F (Itr lo n) (rgD lo n) where
  go := fun i F2 H2 e1 e2 hi => by rw [rgD_len] at hi; exact hi
  stop := fun i F2 H2 e1 e2 hi => by rw [rgD_len] at hi; exact hi
  yld := fun i F2 H2 x H3 d e1 e2 hd y => by
    obtain ⟨rfl, rfl⟩ := y
    rw [rgD_get hd]
    exact ⟨F2, Gr.refl e2, rfl⟩
def sgD (x : Str) : List D := x.cps.toList.map fun c => D.str ⟨#[c]⟩
theorem Wk.sgn {F : Hp} (x : Str) : Wk K F (Its x) (sgD x) where
  go := fun i F2 H2 e1 e2 hi => by
    show i < x.cps.size
    rw [← Array.length_toList]; simpa [sgD] using hi
  stop := fun i F2 H2 e1 e2 hi => by
    show x.cps.size ≤ i
    rw [← Array.length_toList]; simpa [sgD] using hi
  yld := fun i F2 H2 v H3 d e1 e2 hd y => by
    obtain ⟨rfl, u, hc, rfl⟩ := y
    unfold sgD at hd
    rw [List.getElem?_map, Array.getElem?_toList, hc] at hd
    cases hd
    exact ⟨F2, Gr.refl e2, rfl⟩
def asL (x : Sv) : M (List D) := match x.2 with | .lst ds => M.ok ds | .tup ds => M.no | .sl ds => M.ok ds | _ => M.no
def asTp (x : Sv) : M (List D) := match x.2 with | .tup ds => M.ok ds | _ => M.no
def asSg (x : Sv) : M (List D) := match x.2 with | .str ds => M.ok (sgD ds) | _ => M.no
def fSeq (k : Sv → M (List D)) (f : Env → M Sv) : Env → M (List D) := fun env => bd (f env) k
theorem Out.no {α : Type} {A : α → Prop} {B : XD → Prop} (o : Out (none : M α) A B) : False := by
  rcases o with ⟨_, e, _⟩ | ⟨_, e, _⟩ <;> cases e
/-- a list that is made or frozen: from here on it is frozen -/
theorem pi_l {tg : Expr} (he : PE X a (tD X.K W f)) : PI X tg a (tI X.K W (fSeq asL f)) := PI.imp (pi_list he) fun σ H R ⟨F0, H0, F, env, s, o⟩ => by
  have o : Out (bd (f env) asL) (fun ds => ∀ J F' H', Gr F H F' H' → Wk X.K F' J ds → R J H') (ExOk X.K F H W σ) := o
  refine tD.out s (Out.imp o.bd (fun x ox => ?_) fun _ k => k)
  intro v F1 H1 fp g1 w1 nd nw
  obtain ⟨g2, r2⟩ := g1.fz w1 nw
  obtain ⟨n, d⟩ := x
  cases d <;> first | exact (Out.no ox).elim | skip
  · obtain ⟨l, vs, h1, h2, h3⟩ := r2
    exact ⟨l, h1, ⟨vs, SqL.of (g2.fh _ _ h2)⟩, ox.ok rfl _ _ H1 g2 (Wk.lst h2 h3)⟩
  · obtain ⟨l, vs, h1, h2, h3⟩ := r2
    exact ⟨l, h1, ⟨vs, g2.fh.sqL h2⟩, ox.ok rfl _ _ H1 g2 (Wk.sl h2 h3)⟩
theorem pi_t {tg : Expr} (he : PE X a (tD X.K W f)) : PI X tg a (tI X.K W (fSeq asTp f)) := PI.imp (pi_tup he) fun σ H R ⟨F0, H0, F, env, s, o⟩ => by
  have o : Out (bd (f env) asTp) (fun ds => ∀ J F' H', Gr F H F' H' → Wk X.K F' J ds → R J H') (ExOk X.K F H W σ) := o
  refine tD.out s (Out.imp o.bd (fun x ox => ?_) fun _ k => k)
  intro v F1 H1 fp g1 w1 nd nw
  obtain ⟨g2, r2⟩ := g1.fz w1 nw
  obtain ⟨n, d⟩ := x
  cases d <;> first | exact (Out.no ox).elim | skip
  obtain ⟨l, vs, h1, h2, h3⟩ := r2
  exact ⟨l, h1, ⟨vs, SqT.of (g2.fh _ _ h2)⟩, ox.ok rfl _ _ H1 g2 (Wk.tup h2 h3)⟩
theorem pi_sg {tg : Expr} (he : PE X a (tW K W f)) : PI X tg a (tI K W (fSeq asSg f)) := PI.imp (pi_str he) fun σ H R ⟨F0, H0, F, env, s, o⟩ => by
  have o : Out (bd (f env) asSg) (fun ds => ∀ J F' H', Gr F H F' H' → Wk K F' J ds → R J H') (ExOk K F H W σ) := o
  refine tW.out s (Out.imp o.bd (fun x ox => ?_) fun _ k => k)
  intro v F1 H1 fp g1 w1
  obtain ⟨n, d⟩ := x
  cases d <;> first | exact (Out.no ox).elim | skip
  exact ⟨_, w1.str, ox.ok rfl _ _ H1 g1 (Wk.sgn _)⟩
def asR1 (x : List Sv) : M (List D) := match x with | [(_, .int j)] => if -(2 ^ 62) ≤ j ∧ j < 2 ^ 62 then M.ok (rgD 0 j.toNat) else M.no | _ => M.no
def fRg (k : List Sv → M (List D)) (f : Env → M (List Sv)) : Env → M (List D) := fun env => bd (f env) k
theorem pi_rg1 {tg : Expr} {p : Pos} (hg : Gl X "range") (hm : X.mg "range" = none) (ha : PA X [a] (tAw K W gs)) (hs : starEach [a] X.env = [(false, eval a X.env)] := by rfl) : PI X tg (.Call (.Name "range" p) [a] [] pos) (tI K W (fRg asR1 gs)) := PI.imp (pi_range1 hg hm ha hs) fun σ H R ⟨F0, H0, F, env, s, o⟩ => by
  have o : Out (bd (gs env) asR1) (fun ds => ∀ J F' H', Gr F H F' H' → Wk K F' J ds → R J H') (ExOk K F H W σ) := o
  refine tAw.out s (Out.imp o.bd (fun x ox => ?_) fun _ k => k)
  intro vs F1 H1 fp g1 w1
  rcases x with _ | ⟨⟨n, d⟩, _ | ⟨y, r⟩⟩
  · exact (Out.no ox).elim
  · obtain ⟨v, rfl, w2⟩ := w1.one
    cases d <;> first | exact (Out.no ox).elim | skip
    rename_i j
    obtain ⟨c, o2⟩ := Out.iff (show Out (if -(2 ^ 62) ≤ j ∧ j < 2 ^ 62 then M.ok (rgD 0 j.toNat) else M.no) _ _ from ox)
    exact ⟨j, by rw [w2.int], c.1, c.2, o2.ok rfl _ _ H1 g1 (Wk.rng 0 _)⟩
  · cases d <;> exact (Out.no ox).elim

/-! ### targets -/
/-- a target's store by a function: from the item to the slots; js are the slots that it may change -/
def tG (K : Fg) (js : List Nat) (t : D → Env → Option Env) : TG := fun v σ H Q => ∃ F0 H0 F env d env', SR K F0 H0 F H σ env ∧ Rp K F d v ∧ t d env = some env' ∧ ∀ σ', SR K F0 H0 F H σ' env' → σ'.length = σ.length → (∀ i, i ∉ js → σ'[i]? = σ[i]?) → Q σ' H
theorem PG.imp {tg : Expr} {t t' : TG} (h : PG X tg t) (k : ∀ v σ H Q, t' v σ H Q → t v σ H Q) : PG X tg t' := ⟨fun pins s σ H v u Q I r q => h.run pins s σ H v u Q I r (k v σ H Q q)⟩
def gN (i : Nat) : D → Env → Option Env := fun d env => some (env.set i (some (0, d)))
theorem pg_n {tg : Expr} {i : Nat} (p : PG X tg (gName i)) : PG X tg (tG K [i] (gN i)) := PG.imp p fun v σ H Q ⟨F0, H0, F, env, d, env', s, r, e, k⟩ => by
  cases e
  refine k _ (s.set (Gr.refl s.fh) (Ow.z r) List.nodup_nil fun _ m => by cases m) (by rw [List.length_set]) fun j hj => ?_
  rw [List.getElem?_set_ne fun e => hj (by rw [e]; exact List.mem_cons_self)]
/-- several names -/
def setsE : List Nat → List D → Env → Option Env
  | [], [], env => some env
  | i :: is, d :: ds, env => setsE is ds (env.set i (some (0, d)))
  | _, _, _ => none
def gT (is : List Nat) : D → Env → Option Env := fun d env => match d with
  | .tup ds => setsE is ds env
  | _ => none
inductive PNs (X : Cx) : List Expr → List Nat → TGs → Prop where
  | nil : PNs X [] [] gNil
  | cons {e : Expr} {es : List Expr} {i : Nat} {is : List Nat} {t : TGs} : PG X e (gName i) → PNs X es is t → (assignEach (e :: es) X.env).map (·.2) = assign e X.env :: (assignEach es X.env).map (·.2) → PNs X (e :: es) (i :: is) (gCons (gName i) t)
theorem PNs.pgs {es : List Expr} {is : List Nat} {t : TGs} (h : PNs X es is t) : PGs X es t := by
  induction h with
  | nil => exact pgs_nil
  | cons p _ hs ih => exact pgs_cons p ih hs
theorem PNs.go {es : List Expr} {is : List Nat} {t : TGs} (h : PNs X es is t) : ∀ {F0 H0 F H : Hp} {σ : St} {env env' : Env} {ds : List D} {vs : List V} {Q : St → Hp → Prop}, SR K F0 H0 F H σ env → RpL K F ds vs → setsE is ds env = some env' →
    (∀ σ', SR K F0 H0 F H σ' env' → σ'.length = σ.length → (∀ i, i ∉ is → σ'[i]? = σ[i]?) → Q σ' H) → t vs σ H Q := by
  induction h with
  | nil =>
    intro F0 H0 F H σ env env' ds vs Q s r e k
    rcases ds with _ | ⟨d, ds⟩
    · cases e
      cases (show vs = [] from r)
      exact ⟨rfl, k σ s rfl fun _ _ => rfl⟩
    · cases e
  | @cons e es i is t p q hs ih =>
    intro F0 H0 F H σ env env' ds vs Q s r e k
    rcases ds with _ | ⟨d, ds⟩
    · cases e
    · obtain ⟨v, vr, rfl, r1, r2⟩ := r
      refine ⟨v, vr, rfl, ih (s.set (Gr.refl s.fh) (Ow.z r1) List.nodup_nil fun _ m => by cases m) r2 e fun σ' s' hl ho => k σ' s' (by rw [hl, List.length_set]) fun j hj => ?_⟩
      rw [ho j fun m => hj (List.mem_cons_of_mem _ m), List.getElem?_set_ne fun e => hj (by rw [e]; exact List.mem_cons_self)]
theorem pg_t {es : List Expr} {k : Nat} {is : List Nat} {t : TGs} {n : Nat} (hc : X.calm = true) (h : PNs X es is t)
    (hn : (assignEach es X.env).length = n := by rfl) (hst : (assignEach es X.env).findIdx? (·.1) = none := by rfl) (hl : is.length = n := by rfl) : PG X (.Tuple es k pos) (tG X.K is (gT is)) := PG.imp (pg_tup hc h.pgs hn hst) fun v σ H Q ⟨F0, H0, F, env, d, env', s, r, e, k⟩ => by
  cases d <;> first | (cases e; done) | skip
  rename_i ds
  obtain ⟨l, vs, rfl, h2, h3⟩ := r
  have e' : setsE is ds env = some env' := e
  have len : ∀ (is : List Nat) (ds : List D) (env : Env), setsE is ds env = some env' → is.length = ds.length := by
    intro is
    induction is with
    | nil => intro ds env h; cases ds with | nil => rfl | cons _ _ => cases h
    | cons i is ih => intro ds env h; cases ds with | nil => cases h | cons d ds => rw [List.length_cons, List.length_cons, ih ds _ h]
  refine ⟨l, vs, rfl, SqT.of (s.fh _ _ h2), ?_, h.go s h3 e' k⟩
  rw [← h3.len, ← len _ _ _ e', hl]
end
end DP
/-! DP: comprehensions, statements. -/
namespace DP
open PySem L2

/-! ### comprehensions -/
def wipeE (env : Env) : List Nat → Env
  | [] => env
  | v :: vs => (wipeE env vs).set v none
theorem wipe_at (σ : St) (i : Nat) : ∀ vs : List Nat, (wipe σ vs)[i]? = if i ∈ vs then (if i < σ.length then some none else none) else σ[i]?
  | [] => by rw [if_neg (by simp)]; rfl
  | v :: vs => by
    unfold wipe
    by_cases e : v = i
    · subst e
      rw [if_pos List.mem_cons_self]
      by_cases l : v < σ.length
      · rw [if_pos l, List.getElem?_set_self (by rw [wipe_length]; exact l)]
      · rw [if_neg l, List.getElem?_eq_none (by rw [List.length_set, wipe_length]; omega)]
    · rw [List.getElem?_set_ne e, wipe_at σ i vs]
      by_cases m : i ∈ vs
      · rw [if_pos m, if_pos (List.mem_cons_of_mem _ m)]
      · rw [if_neg m, if_neg fun z => (List.mem_cons.mp z).elim (fun q => e q.symm) m]
theorem wipe_same {σ σ' : St} {vs js : List Nat} (hl : σ'.length = σ.length) (ho : ∀ i, i ∉ js → σ'[i]? = (wipe σ vs)[i]?) (hj : ∀ i ∈ js, i ∈ vs) : wipe σ' vs = wipe σ vs := by
  apply List.ext_getElem?
  intro i
  rw [wipe_at, wipe_at, hl]
  by_cases m : i ∈ vs
  · rw [if_pos m, if_pos m]
  · rw [if_neg m, if_neg m, ho i fun z => m (hj i z), wipe_at, if_neg m]
section
variable {K : Fg} {F0 H0 F H F' H' : Hp} {σ : St} {env : Env}
theorem SR.kill (s : SR K F0 H0 F H σ env) (i : Nat) : SR K F0 H0 F H (σ.set i none) (env.set i none) := by
  obtain ⟨fp, h1, h2, h3, h4⟩ := s.ex
  refine ⟨s.g, by simpa using s.len, fp, fun j n d e => ?_, h2, h3, h4⟩
  by_cases z : i = j
  · subst z
    by_cases l : i < env.length
    · rw [List.getElem?_set_self l] at e; cases e
    · rw [List.getElem?_eq_none (by simpa using l)] at e; cases e
  · rw [List.getElem?_set_ne z] at e ⊢
    exact h1 j n d e
theorem SR.wipe (s : SR K F0 H0 F H σ env) : ∀ vs : List Nat, SR K F0 H0 F H (L2.wipe σ vs) (wipeE env vs)
  | [] => s
  | v :: vs => (SR.wipe s vs).kill v
theorem Gr.mut {p : Addr} {o : HO} (g : Gr F H F' H') (h : H p = none) (f : F' p = none) : Gr F H F' (upd H' p o) where
  ff := g.ff
  hh := fun a u e => by rw [upd_ne (ne_of_none e h)]; exact g.hh a u e
  fh := fun a u e => by rw [upd_ne (ne_of_none e f)]; exact g.fh a u e
  nw := g.nw
end
/-- the items of a comprehension, none where something is lacking or raises -/
def lcF (t : D → Env → Option Env) (c : Env → M Bool) (e : Env → M Sv) (env : Env) : List D → Option (List D)
  | [] => some []
  | d :: ds => match t d env with
    | none => none
    | some env' => match c env' with
      | some (.ok false) => lcF t c e env ds
      | some (.ok true) => match e env' with
        | some (.ok (0, y)) => (lcF t c e env ds).map (y :: ·)
        | _ => none
      | _ => none
def fLc (vs : List Nat) (t : D → Env → Option Env) (c : Env → M Bool) (e : Env → M Sv) (l : Env → M (List D)) : Env → M Sv := fun env =>
  bd (l env) fun ds => lf (if ds.length ≤ sizeLine then (lcF t c e (wipeE env vs) ds).map fun ys => ((1, .lst ys) : Sv) else none)
abbrev W0 : WX := fun _ _ _ _ => False
theorem lcF_cons {t : D → Env → Option Env} {c : Env → M Bool} {e : Env → M Sv} {env : Env} {d : D} {ds out : List D} (h : lcF t c e env (d :: ds) = some out) :
    ∃ env', t d env = some env' ∧ ((c env' = M.ok false ∧ lcF t c e env ds = some out) ∨ ∃ y r, c env' = M.ok true ∧ e env' = M.ok (0, y) ∧ lcF t c e env ds = some r ∧ out = y :: r) := by
  unfold lcF at h
  cases q1 : t d env with
  | none => rw [q1] at h; cases h
  | some env' =>
    rw [q1] at h
    refine ⟨env', rfl, ?_⟩
    dsimp only at h
    rcases q2 : c env' with _ | _ | b
    · rw [q2] at h; cases h
    · rw [q2] at h; cases h
    · rw [q2] at h
      cases b with
      | false => exact .inl ⟨rfl, h⟩
      | true =>
        have h : (match e env' with
          | some (.ok (0, y)) => (lcF t c e env ds).map (y :: ·)
          | _ => none) = some out := h
        rcases q3 : e env' with _ | _ | ⟨n, y⟩
        · rw [q3] at h; cases h
        · rw [q3] at h; cases h
        · rw [q3] at h
          cases n with
          | succ n => cases h
          | zero =>
            have h : (lcF t c e env ds).map (y :: ·) = some out := h
            cases q4 : lcF t c e env ds with
            | none => rw [q4] at h; cases h
            | some r => rw [q4] at h; cases h; exact .inr ⟨y, r, rfl, rfl, rfl, rfl⟩
section
variable {X : Cx} {K : Fg} {W : WX} {fi : Env → M (List D)} {tg : D → Env → Option Env} {fc : Env → M Bool} {fe : Env → M Sv} {vs js : List Nat}
theorem tLc_of (hj : ∀ i ∈ js, i ∈ vs) {σ : St} {H : Hp} {Q : VK} (q : tD K W (fLc vs tg fc fe fi) σ H Q) : tLc (tI K W fi) (tG K js tg) (tB' K W0 fc) (tD K W0 fe) vs σ H Q := by
  obtain ⟨F0, H0, F, env, s, o⟩ := q
  have o : Out (fLc vs tg fc fe fi env) (EvOk K F H Q) (ExOk K F H W σ) := o
  refine ⟨F0, H0, F, env, s, Out.imp o.bd (fun ds ox J F1 H1 g1 wk => ?_) fun _ k => k⟩
  obtain ⟨z, ez, kz⟩ := ox.lf
  by_cases c : ds.length ≤ sizeLine
  · rw [if_pos c] at ez
    cases q0 : lcF tg fc fe (wipeE env vs) ds with
    | none => rw [q0] at ez; cases ez
    | some out =>
      rw [q0] at ez; cases ez
      intro Dl hD
      refine ⟨fun i m H2 => m = ds.length - i ∧ i ≤ ds.length ∧ ∃ F2 acc ys rest, Gr F1 H1 F2 H2 ∧ F2 Dl = none ∧ H2 Dl = some (.lst acc) ∧ RpL K F2 ys acc ∧ ys.length ≤ i ∧ lcF tg fc fe (wipeE env vs) (ds.drop i) = some rest ∧ out = ys ++ rest,
        ⟨_, rfl, Nat.zero_le _, F1, [], [], out, Gr.own g1.fh hD, g1.fh.back hD, upd_same, rfl, Nat.zero_le _, q0, rfl⟩, ?_⟩
      rintro i m H2 ⟨rfl, hi, F2, acc, ys, rest, g2, nD, aD, ra, hl, qr, qo⟩
      by_cases lt : i < ds.length
      · refine .inr ⟨wk.go i F2 H2 g2.ff g2.fh lt, fun H3 => ∃ F3 acc ys rest, Gr F1 H1 F3 H3 ∧ F3 Dl = none ∧ H3 Dl = some (.lst acc) ∧ RpL K F3 ys acc ∧ ys.length ≤ i + 1 ∧ lcF tg fc fe (wipeE env vs) (ds.drop (i + 1)) = some rest ∧ out = ys ++ rest, fun H3 n3 => ⟨_, by omega, rfl, lt, n3⟩, fun x H3 y => ?_⟩
        obtain ⟨F3, g3, rx⟩ := wk.yld i F2 H2 x H3 _ g2.ff g2.fh (List.getElem?_eq_getElem lt) y
        rw [List.drop_eq_getElem_cons lt] at qr
        obtain ⟨env', et, oc⟩ := lcF_cons qr
        have s3 : SR K F0 H0 F3 H3 (L2.wipe σ vs) (wipeE env vs) := (((s.on g1).on g2).on g3).wipe vs
        have g23 := g2.trans g3
        have nD3 : F3 Dl = none := (g3.nw Dl _ aD (fun _ h => nomatch h)).trans nD
        have aD3 : H3 Dl = some (.lst acc) := g3.hh _ _ aD
        refine ⟨F0, H0, F3, _, _, env', s3, rx, et, fun σ2 s4 l4 o4 => ⟨wipe_same (l4.trans (wipe_length _ _)) o4 hj, ?_⟩⟩
        rcases oc with ⟨ec, qr'⟩ | ⟨yd, r, ec, ee, qr', er⟩
        · refine tB'.out s4 (.inl ⟨false, ec, fun F4 H4 g4 => ?_⟩)
          have g14 := g23.trans g4
          exact ⟨F4, acc, ys, rest, g14, (g4.nw Dl _ aD3 (fun _ h => nomatch h)).trans nD3, g4.hh _ _ aD3, RpL.mono (g3.ff.tr g4.ff) _ _ ra, by omega, qr', qo⟩
        · refine tB'.out s4 (.inl ⟨true, ec, fun F4 H4 g4 => ?_⟩)
          refine tD.out (s4.on g4) (.inl ⟨(0, yd), ee, fun v F5 H5 fp g5 w5 _ _ => ?_⟩)
          have g45 := g4.trans g5
          have aD5 := g45.hh _ _ aD3
          have nD5 := (g45.nw Dl _ aD3 (fun _ h => nomatch h)).trans nD3
          refine ⟨acc, aD5, ?_, F5, acc ++ [v], ys ++ [yd], r, (g23.trans g45).mut hD nD5, nD5, upd_same, (RpL.mono (g3.ff.tr g45.ff) _ _ ra).append ⟨v, [], rfl, w5.2, rfl⟩, by rw [List.length_append, List.length_singleton]; omega, qr', by rw [qo, er, List.append_assoc]; rfl⟩
          rw [← ra.len]
          omega
      · have e : i = ds.length := by omega
        subst e
        rw [List.drop_length] at qr
        cases qr
        refine .inl ⟨wk.stop _ F2 H2 g2.ff g2.fh (Nat.le_refl _), ?_⟩
        rw [List.append_nil] at qo
        subst qo
        refine kz (.ref Dl) F2 H2 [Dl] (g1.trans g2) (Ow.lst1 ra nD aD) (List.nodup_cons.mpr ⟨by simp, List.nodup_nil⟩) fun a m => ?_
        rw [List.mem_singleton] at m
        rw [m]; exact g1.hh.back hD
  · rw [if_neg c] at ez; cases ez
theorem PTs.imp {X : Cx} {ifs : List Expr} {t t' : TT} (h : PTs X ifs t) (k : ∀ σ H Q, t' σ H Q → t σ H Q) : PTs X ifs t' := ⟨fun pins s σ H Q I q => h.run pins s σ H Q I (k σ H Q q)⟩
theorem pts_0 {W : WX} : PTs X [] (tB' K W fun _ => M.ok true) := PTs.imp pts_nil fun σ H Q ⟨F0, H0, F, env, s, o⟩ => (Out.ok o rfl) F H (Gr.refl s.fh)
theorem pts_1 {W : WX} {c : Expr} {t : Env → M Bool} (h : PT X c (tB' K W t)) : PTs X [c] (tB' K W t) := pts_one h
theorem pd_lc {elt tgx iter : Expr} {ifs : List Expr} {scope : Scope} {own : List (Str × Nat)} {pos : Pos} (js : List Nat) (hc : X.calm = true) (hN : X.N.Nodup) (hi : PI X tgx iter (tI X.K W fi)) (ok : BlkOk X.N X.env.scope scope own)
    (hg : ∀ (s : Shared) (H : Hp) (C : Addr) (cl : List (Str × Addr)) (fp : List Addr), PG (X.blk s H scope (compEnvC scope cl C X.env) fp) tgx (tG X.K js tg)) (ht : ∀ (s : Shared) (H : Hp) (C : Addr) (cl : List (Str × Addr)) (fp : List Addr), PTs (X.blk s H scope (compEnvC scope cl C X.env) fp) ifs (tB' X.K W0 fc))
    (he : ∀ (s : Shared) (H : Hp) (C : Addr) (cl : List (Str × Addr)) (fp : List Addr), PE (X.blk s H scope (compEnvC scope cl C X.env) fp) elt (tD X.K W0 fe)) (hj : ∀ i ∈ js, i ∈ own.map (·.2) := by decide) (hs : ∀ x, foldedSetIterable iter X.env x = pure x := by intro _; rfl) :
    PE X (.ListComp elt [⟨tgx, iter, ifs, 0⟩] scope pos) (tD X.K W (fLc (own.map (·.2)) tg fc fe fi)) := PE.imp (pe_lc hc hN hi ok hg ht he hs) fun _ _ _ q => tLc_of hj q
end

/-! ### statements -/
inductive Fl where
  | nx (env : Env) | rt (x : Sv) | bk (env : Env) | ct (env : Env) | er (e : XD) (env : Env) | rv (d : D) (env : Env)
/-- the slots of J hold what they held -/
def KpJ (J : List Nat) (σ σ' : St) : Prop := ∀ j ∈ J, σ'[j]? = σ[j]?
theorem KpJ.rfl' {J : List Nat} {σ : St} : KpJ J σ σ := fun _ _ => rfl
theorem KpJ.tr {J : List Nat} {σ σ1 σ2 : St} (h : KpJ J σ σ1) (k : KpJ J σ1 σ2) : KpJ J σ σ2 := fun j m => (k j m).trans (h j m)
theorem KpJ.set {J : List Nat} {σ : St} {i : Nat} {v : Option V} (h : i ∉ J) : KpJ J σ (σ.set i v) := fun j m => List.getElem?_set_ne fun e => h (by rw [e]; exact m)
abbrev Gs := Env → Option Fl
def FlOk (K : Fg) (F0 H0 Fb : Hp) (W : WX) (J : List Nat) (σ0 : St) (Dn : Ends) : Fl → Prop
  | .nx env => ∀ σ F H, Ex Fb F → SR K F0 H0 F H σ env → KpJ J σ0 σ → Dn.nx σ H
  | .bk env => ∀ σ F H, Ex Fb F → SR K F0 H0 F H σ env → KpJ J σ0 σ → Dn.bk σ H
  | .ct env => ∀ σ F H, Ex Fb F → SR K F0 H0 F H σ env → KpJ J σ0 σ → Dn.ct σ H
  | .rt x => ∀ v F H fp, Gr F0 H0 F H → Ow K F H x.1 x.2 v fp → fp.Nodup → (∀ a ∈ fp, H0 a = none) → Dn.rt v H
  | .er e env => ∀ cls dd σ F H, Ex Fb F → SR K F0 H0 F H σ env → KpJ J σ0 σ → ExR K H0 F H cls dd e → W cls dd σ H
  | .rv d env => ∀ v σ F H, Ex Fb F → SR K F0 H0 F H σ env → KpJ J σ0 σ → Rp K F d v → Dn.rt v H
theorem FlOk.on {K : Fg} {F0 H0 Fb F : Hp} {W : WX} {J : List Nat} {σ0 : St} {Dn : Ends} {r : Fl} (k : FlOk K F0 H0 Fb W J σ0 Dn r) (x : Ex Fb F) : FlOk K F0 H0 F W J σ0 Dn r := by
  cases r with
  | nx env => exact fun σ F' H y => k σ F' H (x.tr y)
  | bk env => exact fun σ F' H y => k σ F' H (x.tr y)
  | ct env => exact fun σ F' H y => k σ F' H (x.tr y)
  | rt v => exact k
  | er e env => exact fun cls dd σ F' H y => k cls dd σ F' H (x.tr y)
  | rv d env => exact fun v σ F' H y => k v σ F' H (x.tr y)
theorem FlOk.kp {K : Fg} {F0 H0 Fb : Hp} {W : WX} {J : List Nat} {σ0 σ1 : St} {Dn : Ends} {r : Fl} (k : FlOk K F0 H0 Fb W J σ0 Dn r) (x : KpJ J σ0 σ1) : FlOk K F0 H0 Fb W J σ1 Dn r := by
  cases r with
  | nx env => exact fun σ F' H y s z => k σ F' H y s (x.tr z)
  | bk env => exact fun σ F' H y s z => k σ F' H y s (x.tr z)
  | ct env => exact fun σ F' H y s z => k σ F' H y s (x.tr z)
  | rt v => exact k
  | er e env => exact fun cls dd σ F' H y s z => k cls dd σ F' H y s (x.tr z)
  | rv d env => exact fun v σ F' H y s z => k v σ F' H y s (x.tr z)
def tS (K : Fg) (W : WX) (J : List Nat) (g : Gs) : TS := fun Dn σ H => ∃ F0 H0 F env r, SR K F0 H0 F H σ env ∧ g env = some r ∧ FlOk K F0 H0 F W J σ Dn r
def gM {α : Type} (m : M α) (env : Env) (k : α → Option Fl) : Option Fl := match m with
  | none => none
  | some (.error e) => some (.er e env)
  | some (.ok a) => k a
theorem gM_some {α : Type} {m : M α} {env : Env} {k : α → Option Fl} {r : Fl} (h : gM m env k = some r) : (∃ a, m = M.ok a ∧ k a = some r) ∨ ∃ e, m = M.er e ∧ r = .er e env := by
  rcases m with _ | e | a
  · cases h
  · exact .inr ⟨e, rfl, (Option.some.inj h).symm⟩
  · exact .inl ⟨a, rfl, h⟩
theorem FlOk.er {K : Fg} {F0 H0 F H : Hp} {W : WX} {J : List Nat} {Dn : Ends} {σ : St} {env : Env} {e : XD} (s : SR K F0 H0 F H σ env) (k : FlOk K F0 H0 F W J σ Dn (.er e env)) : ExOk K F H W σ e := fun cls dd F' H' g r => k cls dd σ F' H' g.ff (s.on g) KpJ.rfl' (r.on s.g.hh)
section
variable {X : Cx} {K : Fg} {W : WX} {J : List Nat} {a c : Expr} {st : Stmt} {rest : List Stmt} {pos : Pos} {f : Env → M Sv} {t : Env → M Bool} {g g1 g2 : Gs}
def gNil : Gs := fun env => some (.nx env)
def gSeq (g1 g2 : Gs) : Gs := fun env => match g1 env with
  | some (.nx env') => g2 env'
  | r => r
theorem sd_nil : PSs X [] (tS K W J gNil) := PSs.imp pss_nil fun D σ H ⟨F0, H0, F, env, r, s, e, k⟩ => by
  cases e
  exact k σ F H (Ex.rfl' _) s KpJ.rfl'
theorem sd_cons (h1 : PS X st (tS K W J g1)) (h2 : PSs X rest (tS K W J g2)) : PSs X (st :: rest) (tS K W J (gSeq g1 g2)) := PSs.imp (pss_cons h1 h2) fun D σ H ⟨F0, H0, F, env, r, s, e, k⟩ => by
  unfold gSeq at e
  show tS K W J g1 { D with nx := tS K W J g2 D } σ H
  cases q : g1 env with
  | none => rw [q] at e; cases e
  | some r1 =>
    rw [q] at e
    refine ⟨F0, H0, F, env, r1, s, q, ?_⟩
    cases r1 with
    | nx env' => exact fun σ' F' H' x s' z => ⟨F0, H0, F', env', r, s', e, (k.on x).kp z⟩
    | rt x => cases e; exact k
    | bk x => cases e; exact k
    | ct x => cases e; exact k
    | er x y => cases e; exact k
    | rv x y => cases e; exact k
theorem sd_one (h1 : PS X st (tS K W J g1)) : PSs X [st] (tS K W J g1) := pss_one h1
def gSet (i : Nat) (f : Env → M Sv) : Gs := fun env => gM (f env) env fun x => some (.nx (env.set i (some x)))
theorem sAsg_of {i : Nat} (hJ : i ∉ J) {D : Ends} {σ : St} {H : Hp} (q : tS K W J (gSet i f) D σ H) : tAsg (tD K W f) (gName i) D σ H := by
  obtain ⟨F0, H0, F, env, r, s, e, k⟩ := q
  rcases gM_some e with ⟨x, e1, e2⟩ | ⟨x, e1, e2⟩
  · cases e2
    exact tD.go s e1 fun v F1 H1 fp g o nd nw => k _ F1 H1 g.ff (s.set g o nd nw) (KpJ.set hJ)
  · subst e2
    exact tD.ex s e1 (FlOk.er s k)
theorem sd_set (i : Nat) {x : Str} {pos' : Pos} (hN : X.N.Nodup) (hi : X.N[i]? = some x) (hx : Loc X.env.scope x) (he : PE X a (tD K W f)) (hs : swapsWith a (some (.Name x pos')) pos.line X.env = pure false := by rfl) (hf : X.fn x = true ∨ X.env.scope.names.lookup x = some .local := by first | exact .inl rfl | exact .inr rfl | assumption) (hJ : i ∉ J := by decide) :
    PS X (.Assign [.Name x pos'] a pos) (tS K W J (gSet i f)) := PS.imp (ps_set hN hi hx he hs hf) fun _ _ _ q => sAsg_of hJ q
theorem sd_setLc (i : Nat) {y : Str} {py : Pos} {elt tgx iter : Expr} {ifs : List Expr} {scope : Scope} {own : List (Str × Nat)} {pos spos : Pos} {fi : Env → M (List D)} {tg : D → Env → Option Env} {fc : Env → M Bool} {fe : Env → M Sv} (js : List Nat) (hc : X.calm = true) (hN : X.N.Nodup) (hy : X.N[i]? = some y) (hyl : X.env.scope.names.lookup y = some .local)
    (hsw : swapsWith (.ListComp elt [⟨tgx, iter, ifs, 0⟩] scope pos) (some (.Name y py)) spos.line X.env = pure true) (hi : PI X tgx iter (tI X.K W fi)) (ok : BlkOk X.N X.env.scope scope own)
    (hg : ∀ (s : Shared) (H : Hp) (C : Addr) (cl : List (Str × Addr)) (fp : List Addr), PG (X.blk s H scope (compEnvC scope cl C X.env) fp) tgx (tG X.K js tg)) (ht : ∀ (s : Shared) (H : Hp) (C : Addr) (cl : List (Str × Addr)) (fp : List Addr), PTs (X.blk s H scope (compEnvC scope cl C X.env) fp) ifs (tB' X.K W0 fc))
    (he : ∀ (s : Shared) (H : Hp) (C : Addr) (cl : List (Str × Addr)) (fp : List Addr), PE (X.blk s H scope (compEnvC scope cl C X.env) fp) elt (tD X.K W0 fe)) (hj : ∀ i ∈ js, i ∈ own.map (·.2) := by decide) (hs : ∀ x, foldedSetIterable iter X.env x = pure x := by intro _; rfl) (hJ : i ∉ J := by decide) :
    PS X (.Assign [.Name y py] (.ListComp elt [⟨tgx, iter, ifs, 0⟩] scope pos) spos) (tS X.K W J (gSet i (fLc (own.map (·.2)) tg fc fe fi))) := PS.imp (ps_setLc hc hN hy hyl hsw hi ok hg ht he hs) fun D σ H q => by
  have z := sAsg_of hJ q
  exact tLc_of hj (σ := σ) z
/-- unpacking -/
def gAsg (t : D → Env → Option Env) (f : Env → M Sv) : Gs := fun env => gM (f env) env fun x => if x.1 = 0 then (t x.2 env).map .nx else none
theorem sd_asg {tgx : Expr} {js : List Nat} {tf : D → Env → Option Env} (he : PE X a (tD X.K W f)) (hg : PG X tgx (tG X.K js tf)) (hs : swapsWithSole [tgx] a pos.line X.env = pure false := by rfl) (hw : swappedStores [tgx] a X.env = pure none := by rfl)
    (h1 : (assignEach [tgx] X.env).map (·.2) = [assign tgx X.env] := by rfl) (hJ : ∀ j ∈ J, j ∉ js := by decide) : PS X (.Assign [tgx] a pos) (tS X.K W J (gAsg tf f)) := PS.imp (ps_asg he hg hs hw h1) fun D σ H ⟨F0, H0, F, env, r, s, e, k⟩ => by
  rcases gM_some e with ⟨⟨n, d⟩, e1, e2⟩ | ⟨x, e1, e2⟩
  · by_cases c : n = 0
    · subst c
      rw [if_pos rfl] at e2
      cases q : tf d env with
      | none => rw [show tf (0, d).2 env = none from q] at e2; cases e2
      | some env' =>
        rw [show tf (0, d).2 env = some env' from q] at e2
        cases e2
        exact tD.go s e1 fun v F1 H1 fp g o nd nw => ⟨F0, H0, F1, env, d, env', s.on g, o.2, q, fun σ' s' _ z => k σ' F1 H1 g.ff s' fun j m => z j (hJ j m)⟩
    · rw [if_neg c] at e2; cases e2
  · subst e2
    exact tD.ex s e1 (FlOk.er s k)
def gRet (f : Env → M Sv) : Gs := fun env => gM (f env) env fun x => some (.rt x)
theorem sd_ret (he : PE X a (tD K W f)) : PS X (.Return (some a) pos) (tS K W J (gRet f)) := PS.imp (ps_ret he) fun D σ H ⟨F0, H0, F, env, r, s, e, k⟩ => by
  rcases gM_some e with ⟨x, e1, e2⟩ | ⟨x, e1, e2⟩
  · cases e2
    exact tD.go s e1 fun v F1 H1 fp g o nd nw => k v F1 H1 fp (s.g.trans g) o nd fun a m => s.g.hh.back (nw a m)
  · subst e2
    exact tD.ex s e1 (FlOk.er s k)
/-- a slot that is owned is handed back as it is -/
def gRetO (i : Nat) : Gs := fun env => match env[i]? with | some (some x) => some (.rt x) | _ => none
theorem sd_retO (i : Nat) {x : Str} {p : Pos} (he : PE X (.Name x p) (tVar i)) : PS X (.Return (some (.Name x p)) pos) (tS K W J (gRetO i)) := PS.imp (ps_ret he) fun D σ H ⟨F0, H0, F, env, r, s, e, k⟩ => by
  unfold gRetO at e
  rcases q : env[i]? with _ | _ | ⟨n, d⟩
  · rw [q] at e; cases e
  · rw [q] at e; cases e
  · rw [q] at e; cases e
    obtain ⟨fp, h1, h2, h3, h4⟩ := s.ex
    obtain ⟨v, e1, o⟩ := h1 i n d q
    exact ⟨v, e1, k v F H (fp i) s.g o (h2 i) fun a m => h4 i a m⟩
/-- a plain value is handed back, the state is told with it -/
def gRetV (f : Env → M Sv) : Gs := fun env => gM (f env) env fun x => if x.1 = 0 then some (.rv x.2 env) else none
theorem sd_retV (he : PE X a (tD K W f)) : PS X (.Return (some a) pos) (tS K W J (gRetV f)) := PS.imp (ps_ret he) fun D σ H ⟨F0, H0, F, env, r, s, e, k⟩ => by
  rcases gM_some e with ⟨⟨n, d⟩, e1, e2⟩ | ⟨x, e1, e2⟩
  · by_cases c : n = 0
    · subst c
      rw [if_pos rfl] at e2
      cases e2
      exact tD.go s e1 fun v F1 H1 fp g o nd nw => k v σ F1 H1 g.ff (s.on g) KpJ.rfl' o.2
    · rw [if_neg c] at e2; cases e2
  · subst e2
    exact tD.ex s e1 (FlOk.er s k)
/-- what is never come to -/
def gNo : Gs := fun _ => none
theorem sd_no {st : Stmt} : PS X st (tS K W J gNo) := ⟨fun _ _ _ _ _ _ ⟨_, _, _, _, _, _, e, _⟩ => nomatch e⟩
def gRetN : Gs := fun env => some (.rt (0, .non))
theorem sd_retN : PS X (.Return none pos) (tS K W J gRetN) := PS.imp ps_retN fun D σ H ⟨F0, H0, F, env, r, s, e, k⟩ => by
  cases e
  exact k .non F H [] s.g ⟨rfl, rfl⟩ List.nodup_nil fun _ m => by cases m
def gDrop (f : Env → M Sv) : Gs := fun env => gM (f env) env fun _ => some (.nx env)
theorem sd_drop (he : PE X a (tD K W f)) (hs : swapsWith a none pos.line X.env = pure false := by rfl) : PS X (.Expr a pos) (tS K W J (gDrop f)) := PS.imp (ps_expr he hs) fun D σ H ⟨F0, H0, F, env, r, s, e, k⟩ => by
  rcases gM_some e with ⟨x, e1, e2⟩ | ⟨x, e1, e2⟩
  · cases e2
    exact tD.go s e1 fun v F1 H1 fp g o nd nw => k σ F1 H1 g.ff (s.on g) KpJ.rfl'
  · subst e2
    exact tD.ex s e1 (FlOk.er s k)
theorem sd_pass : PS X (.Pass pos) (tS K W J gNil) := PS.imp ps_pass fun D σ H ⟨F0, H0, F, env, r, s, e, k⟩ => by
  cases e
  exact k σ F H (Ex.rfl' _) s KpJ.rfl'
def gIf (t : Env → M Bool) (g1 g2 : Gs) : Gs := fun env => gM (t env) env fun b => if b then g1 env else g2 env
theorem sd_if {as bs : List Stmt} (hc : PT X c (tB' K W t)) (h1 : PSs X as (tS K W J g1)) (h2 : PSs X bs (tS K W J g2)) : PS X (.If c as bs pos) (tS K W J (gIf t g1 g2)) := PS.imp (ps_if hc h1 h2) fun D σ H ⟨F0, H0, F, env, r, s, e, k⟩ => by
  rcases gM_some e with ⟨x, e1, e2⟩ | ⟨x, e1, e2⟩
  · refine tB'.out s (.inl ⟨x, e1, fun F1 H1 g => ?_⟩)
    cases x with
    | true => exact ⟨F0, H0, F1, env, r, s.on g, e2, k.on g.ff⟩
    | false => exact ⟨F0, H0, F1, env, r, s.on g, e2, k.on g.ff⟩
  · subst e2
    exact tB'.out s (.inr ⟨x, e1, FlOk.er s k⟩)
/-- for -/
def forF (t : D → Env → Option Env) (g : Gs) : List D → Env → Option Fl
  | [], env => some (.nx env)
  | d :: ds, env => match t d env with
    | none => none
    | some env' => match g env' with
      | some (.nx env2) => forF t g ds env2
      | some (.ct env2) => forF t g ds env2
      | some (.bk env2) => some (.nx env2)
      | r => r
def gFor (t : D → Env → Option Env) (l : Env → M (List D)) (g : Gs) : Gs := fun env => gM (l env) env fun ds => forF t g ds env
theorem sd_for {tgx iter : Expr} {body : List Stmt} {fi : Env → M (List D)} {tf : D → Env → Option Env} {js : List Nat} (hp : PassesOwn (model X.prog X.w) X.A X.env X.xe) (hc : X.calm = true) (hi : PI X tgx iter (tI X.K W fi)) (hg : PG X tgx (tG X.K js tf)) (hb : PSs X body (tS X.K W J g))
    (hs : ∀ x, foldedSetIterable iter X.env x = pure x := by intro _; rfl) (hJ : ∀ j ∈ J, j ∉ js := by decide) : PS X (.For tgx iter body [] pos) (tS X.K W J (gFor tf fi g)) := PS.imp (ps_for hp hc hi hg hb hs) fun D σ H ⟨F0, H0, F, env, r, s, e, k⟩ => by
  rcases gM_some e with ⟨ds, e1, e2⟩ | ⟨x, e1, e2⟩
  · refine ⟨F0, H0, F, env, s, .inl ⟨ds, e1, fun Jt F1 H1 g1 wk => ?_⟩⟩
    refine ⟨fun i m σ2 H2 => m = ds.length - i ∧ i ≤ ds.length ∧ ∃ F2 env2, Ex F1 F2 ∧ SR X.K F0 H0 F2 H2 σ2 env2 ∧ forF tf g (ds.drop i) env2 = some r ∧ KpJ J σ σ2, ⟨_, rfl, Nat.zero_le _, F1, env, Ex.rfl' _, s.on g1, e2, KpJ.rfl'⟩, ?_⟩
    rintro i m σ2 H2 ⟨rfl, hi, F2, env2, x2, s2, q2, z2⟩
    by_cases lt : i < ds.length
    · refine .inr ⟨wk.go i F2 H2 x2 s2.fh lt, fun σ3 H3 => ∃ F3 env3, Ex F1 F3 ∧ SR X.K F0 H0 F3 H3 σ3 env3 ∧ forF tf g (ds.drop (i + 1)) env3 = some r ∧ KpJ J σ σ3, fun σ3 H3 n3 => ⟨_, by omega, rfl, lt, n3⟩, fun x H3 y => ?_⟩
      obtain ⟨F3, g3, rx⟩ := wk.yld i F2 H2 x H3 _ x2 s2.fh (List.getElem?_eq_getElem lt) y
      rw [List.drop_eq_getElem_cons lt] at q2
      unfold forF at q2
      cases q3 : tf ds[i] env2 with
      | none => rw [q3] at q2; cases q2
      | some env' =>
        rw [q3] at q2
        dsimp only at q2
        have x3 : Ex F1 F3 := x2.tr g3.ff
        refine ⟨F0, H0, F3, env2, _, env', s2.on g3, rx, q3, fun σ3 s3 _ zz => ?_⟩
        have z3 : KpJ J σ σ3 := z2.tr fun j m => zz j (hJ j m)
        cases q4 : g env' with
        | none => rw [q4] at q2; cases q2
        | some r1 =>
          rw [q4] at q2
          refine ⟨F0, H0, F3, env', r1, s3, q4, ?_⟩
          cases r1 with
          | nx env4 => exact fun σ4 F4 H4 y s4 z4 => ⟨F4, env4, x3.tr y, s4, q2, z3.tr z4⟩
          | ct env4 => exact fun σ4 F4 H4 y s4 z4 => ⟨F4, env4, x3.tr y, s4, q2, z3.tr z4⟩
          | bk env4 => cases q2; exact (k.on (g1.ff.tr x3)).kp z3
          | rt v => cases q2; exact k
          | er x y => cases q2; exact (k.on (g1.ff.tr x3)).kp z3
          | rv x y => cases q2; exact (k.on (g1.ff.tr x3)).kp z3
    · have e : i = ds.length := by omega
      subst e
      rw [List.drop_length] at q2
      cases q2
      exact .inl ⟨wk.stop _ F2 H2 x2 s2.fh (Nat.le_refl _), k σ2 F2 H2 (g1.ff.tr x2) s2 z2⟩
  · subst e2
    exact ⟨F0, H0, F, env, s, .inr ⟨x, e1, FlOk.er s k⟩⟩
end
end DP
/-! DP: defs, calls, while, owned objects that change. -/
namespace DP
open PySem L2 PySem.Spec PyProof.Rows

/-! ### what is flat beyond its owned layers -/
mutual
def flatT : D → Bool
  | .tup ds => flatTL ds
  | .non => true
  | .bl _ => true
  | .int _ => true
  | .str _ => true
  | _ => false
def flatTL : List D → Bool
  | [] => true
  | d :: ds => flatT d && flatTL ds
end
mutual
theorem Rp.flatT {K : Fg} {F F' : Hp} (hc : ∀ a vs, F a = some (.tup vs) → F' a = some (.tup vs)) : ∀ (d : D) (v : V), flatT d = true → Rp K F d v → Rp K F' d v
  | .non, _, _, h => h
  | .bl _, _, _, h => h
  | .int _, _, _, h => h
  | .str _, _, _, h => h
  | .tup ds, v, f, ⟨a, vs, h1, h2, h3⟩ => ⟨a, vs, h1, hc a vs h2, RpL.flatT hc ds vs f h3⟩
  | .lst _, _, f, _ => nomatch f
  | .sl _, _, f, _ => nomatch f
  | .ref _, _, f, _ => nomatch f
  | .dK _ _, _, f, _ => nomatch f
  | .dT _ _, _, f, _ => nomatch f
  | .ins _ _ _, _, f, _ => nomatch f
theorem RpL.flatT {K : Fg} {F F' : Hp} (hc : ∀ a vs, F a = some (.tup vs) → F' a = some (.tup vs)) : ∀ (ds : List D) (vs : List V), flatTL ds = true → RpL K F ds vs → RpL K F' ds vs
  | [], _, _, h => h
  | d :: ds, _, f, ⟨v, r, h1, h2, h3⟩ => by
    have f : (flatT d && flatTL ds) = true := f
    rw [Bool.and_eq_true] at f
    exact ⟨v, r, h1, Rp.flatT hc d v f.1 h2, RpL.flatT hc ds r f.2 h3⟩
end
def flatN : Nat → D → Bool
  | 0, d => flatT d
  | n + 1, .lst ds => ds.all (flatN n)
  | n + 1, .dK _ ds => ds.all (flatN n)
  | n + 1, .dT _ ds => ds.all (flatN n)
  | n + 1, .ins _ _ ds => ds.all (flatN n)
  | _ + 1, _ => false
section
variable {K : Fg} {F F' H H' : Hp}
theorem OwL.cong {R R' : D → V → List Addr → Prop} : ∀ {ds : List D} {vs : List V} {r : List Addr}, (∀ d ∈ ds, ∀ v r', (∀ a ∈ r', a ∈ r) → R d v r' → R' d v r') → OwL R ds vs r → OwL R' ds vs r
  | [], _, _, _, h => h
  | d :: ds, _, _, f, ⟨v, vr, r1, r2, h1, h2, h3, h4⟩ => by
    subst h2
    exact ⟨v, vr, r1, r2, h1, rfl, f d List.mem_cons_self v r1 (fun a m => List.mem_append_left _ m) h3, OwL.cong (fun d' m v' r' z => f d' (List.mem_cons_of_mem _ m) v' r' fun a m' => List.mem_append_right _ (z a m')) h4⟩
/-- nothing but flat data beyond the owned layers: the frozen heap does not matter -/
theorem Ow.flatN (hc : ∀ a vs, F a = some (.tup vs) → F' a = some (.tup vs)) : ∀ {n : Nat} {d : D} {v : V} {fp : List Addr}, flatN n d = true → (∀ a ∈ fp, F' a = none) → Ow K F H n d v fp → Ow K F' H n d v fp
  | 0, d, v, fp, f, _, h => ⟨h.1, Rp.flatT hc d v f h.2⟩
  | n + 1, d, v, fp, f, nf, ⟨a, o, r, h1, h2, h3, h4, h5⟩ => by
    subst h4
    refine ⟨a, o, r, h1, nf a List.mem_cons_self, h3, rfl, ?_⟩
    have nr : ∀ b ∈ r, F' b = none := fun b m => nf b (List.mem_cons_of_mem _ m)
    have step : ∀ {ds : List D} {vs : List V}, ds.all (DP.flatN n) = true → OwL (Ow K F H n) ds vs r → OwL (Ow K F' H n) ds vs r := fun {ds vs} fa w =>
      OwL.cong (fun d' m v' r' z w' => Ow.flatN hc (List.all_eq_true.mp fa d' m) (fun b mb => nr b (z b mb)) w') w
    cases d <;> cases o <;> first
      | exact h5.elim
      | exact step f h5
      | exact ⟨h5.1, step f h5.2⟩
      | exact ⟨h5.1, h5.2.1, step f h5.2.2⟩
      | exact absurd (show false = true from f) Bool.false_ne_true
/-- no tuple is owned -/
theorem Ow.notup : ∀ {n : Nat} {d : D} {v : V} {fp : List Addr}, Ow K F H n d v fp → ∀ a ∈ fp, ∀ vs, H a ≠ some (.tup vs)
  | 0, _, _, _, h, a, m => by rw [h.1] at m; cases m
  | n + 1, d, _, _, ⟨b, o, r, h1, h2, h3, h4, h5⟩, a, m => by
    subst h4
    rcases List.mem_cons.mp m with m | m
    · subst m
      intro vs e
      rw [h3] at e
      cases e
      cases d <;> exact h5.elim
    · exact OwO.fp (fun _ _ _ z => Ow.notup z) h5 a m
/-- owned objects by what stands at their addresses -/
theorem Ow.heap : ∀ {n : Nat} {d : D} {v : V} {fp : List Addr}, (∀ a ∈ fp, H' a = H a) → Ow K F H n d v fp → Ow K F H' n d v fp
  | 0, _, _, _, _, h => h
  | n + 1, d, v, _, q, ⟨a, o, r, h1, h2, h3, h4, h5⟩ => by
    subst h4
    refine ⟨a, o, r, h1, h2, (q a List.mem_cons_self).trans h3, rfl, ?_⟩
    have step : ∀ {ds : List D} {vs : List V}, OwL (Ow K F H n) ds vs r → OwL (Ow K F H' n) ds vs r := fun {ds vs} w =>
      OwL.cong (fun d' _ v' r' z w' => Ow.heap (fun b mb => q b (List.mem_cons_of_mem _ (z b mb))) w') w
    cases d <;> cases o <;> first
      | exact h5.elim
      | exact step h5
      | exact ⟨h5.1, step h5.2⟩
      | exact ⟨h5.1, h5.2.1, step h5.2.2⟩
/-- more is frozen, not what is owned here -/
theorem Ow.more : ∀ {n : Nat} {d : D} {v : V} {fp : List Addr}, Ex F F' → (∀ a ∈ fp, F' a = none) → Ow K F H n d v fp → Ow K F' H n d v fp
  | 0, d, v, _, e, _, h => ⟨h.1, Rp.mono e d v h.2⟩
  | n + 1, d, v, _, e, q, ⟨a, o, r, h1, h2, h3, h4, h5⟩ => by
    subst h4
    refine ⟨a, o, r, h1, q a List.mem_cons_self, h3, rfl, ?_⟩
    have step : ∀ {ds : List D} {vs : List V}, OwL (Ow K F H n) ds vs r → OwL (Ow K F' H n) ds vs r := fun {ds vs} w =>
      OwL.cong (fun d' _ v' r' z w' => Ow.more e (fun b mb => q b (List.mem_cons_of_mem _ (z b mb))) w') w
    cases d <;> cases o <;> first
      | exact h5.elim
      | exact step h5
      | exact ⟨h5.1, step h5.2⟩
      | exact ⟨h5.1, h5.2.1, step h5.2.2⟩
end

/-! ### a def's promise -/
def spD (K : Fg) (m : List D → M Sv) : Sp := fun vs H Q E => ∃ F ds, Ex F H ∧ RpL K F ds vs ∧ Out (m ds) (EvOk K F H Q) (fun e => ∀ cls dd F' H', Gr F H F' H' → ExR K H F' H' cls dd e → E cls dd H')
def env0 (N : List Str) (ds : List D) : Env := ds.map (fun d => some ((0, d) : Sv)) ++ List.replicate (N.length - ds.length) none
def runG (N : List Str) (n : Nat) (g : Gs) (ds : List D) : M Sv := if ds.length = n then (match g (env0 N ds) with
  | some (.nx _) => M.ok (0, .non)
  | some (.rt x) => M.ok x
  | some (.rv d _) => M.ok (0, d)
  | some (.er e _) => M.er e
  | _ => M.no) else M.no
theorem SR.start {K : Fg} {F H : Hp} {N : List Str} {ds : List D} {vs : List V} (e : Ex F H) (r : RpL K F ds vs) : SR K F H F H (L2.start N vs) (env0 N ds) := by
  refine ⟨Gr.refl e, ?_, fun _ => [], fun i n d h => ?_, fun _ => List.nodup_nil, (fun _ _ _ h => nomatch h), (fun _ _ h => nomatch h)⟩
  · unfold env0 L2.start
    simp [r.len]
  · unfold env0 at h
    unfold L2.start
    by_cases l : i < ds.length
    · rw [List.getElem?_append_left (by simpa using l), List.getElem?_map] at h
      cases q : ds[i]? with
      | none => rw [q] at h; cases h
      | some d' =>
        rw [q] at h; cases h
        obtain ⟨v, hv, rv⟩ := r.get q
        exact ⟨v, by rw [List.getElem?_append_left (by rw [List.length_map, ← r.len]; exact l), List.getElem?_map, hv]; rfl, rfl, rv⟩
    · rw [List.getElem?_append_right (by simpa using l)] at h
      have := List.getElem?_eq_some_iff.mp h
      obtain ⟨h1, h2⟩ := this
      rw [List.getElem_replicate] at h2
      cases h2
section
variable {P : Program} {w : World} {K : Fg} {mg : Str → Option Value} {base : Heap}
theorem fn_D {x qual : Str} {st : Stmt} {f : Addr} {fd : FuncData} {N ps : List Str} {k : Nat} {J : List Nat} {g : Gs} (F : Fun K x qual st f fd) (S : FnScope N ps (defScope st))
    (hb : ∀ (cdv : Value) (A : Around) (outer : List PySem.Env) (s : Shared) (H : Hp) (E : XK), Room k (A.deeper (envOfC qual (defScope st) s.heap.objs.size f cdv)) →
      PSs (cxOf (L2.CX P w) P w K mg base N qual (defScope st) f cdv A outer s H E) (defBody st) (tS K (fun cls d _ H => E cls d H) J g)) :
    FnOk P w K mg base (L2.CX P w) (k + 1) f fd ps (spD K (runG N ps.length g)) := by
  refine F.okX S (fun vs H Q E h => ?_) (fun cdv A outer s H vs Q E hr h => ⟨_, hb cdv A outer s H E hr, ?_⟩)
  · obtain ⟨F', ds, _, r, o⟩ := h
    by_cases c : ds.length = ps.length
    · rw [← r.len]; exact c
    · unfold runG at o; rw [if_neg c] at o; exact (Out.no o).elim
  · obtain ⟨F', ds, e, r, o⟩ := h
    unfold runG at o
    by_cases c : ds.length = ps.length
    · rw [if_pos c] at o
      cases q : g (env0 N ds) with
      | none => rw [q] at o; exact (Out.no o).elim
      | some fl =>
        rw [q] at o
        refine ⟨F', H, F', _, fl, SR.start e r, q, ?_⟩
        cases fl with
        | nx env => exact fun σ F1 H1 _ s1 _ => (Out.ok o rfl).z s1.g rfl
        | rv d env => exact fun v σ F1 H1 _ s1 _ w1 => (Out.ok o rfl).z s1.g w1
        | rt v => exact fun v F1 H1 fp g1 o1 nd nw => (Out.ok o rfl) v F1 H1 fp g1 o1 nd nw
        | er e1 env =>
          rcases o with ⟨_, e2, _⟩ | ⟨e2, e3, k2⟩
          · cases (Option.some.inj e2)
          · cases (Except.error.inj (Option.some.inj e3))
            exact fun cls dd σ F1 H1 _ s1 _ r1 => k2 cls dd F1 H1 s1.g r1
        | bk env => exact (Out.no o).elim
        | ct env => exact (Out.no o).elim
    · rw [if_neg c] at o; exact (Out.no o).elim
theorem spD.imp {m m' : List D → M Sv} (h : ∀ ds r, m' ds = some r → m ds = some r) (vs : List V) (H : Hp) (Q : VK) (E : XK) (q : spD K m' vs H Q E) : spD K m vs H Q E := by
  obtain ⟨F, ds, e, r, o⟩ := q
  refine ⟨F, ds, e, r, ?_⟩
  rcases o with ⟨x, e1, k⟩ | ⟨x, e1, k⟩
  · exact .inl ⟨x, h _ _ e1, k⟩
  · exact .inr ⟨x, h _ _ e1, k⟩
end

/-! ### calls -/
def lv0 (xs : List Sv) : Bool := xs.all fun x => x.1 == 0
def flatX (e : XD) : Bool := match e.fld with | none => true | some (_, x) => flatN x.1 x.2
/-- what a call gives: of arguments that are lent, nothing but flat data comes back -/
def clR (xs : List Sv) (r : M Sv) : M Sv := match r with
  | none => none
  | some (.ok x) => if (lv0 xs || flatN x.1 x.2) = true then M.ok x else M.no
  | some (.error e) => if (lv0 xs || flatX e) = true then M.er e else M.no
def fCall (m : List D → M Sv) (gs : Env → M (List Sv)) : Env → M Sv := fun env => bd (gs env) fun xs => clR xs (m (xs.map (·.2)))
section
variable {X : Cx} {K : Fg} {W : WX} {gs : Env → M (List Sv)} {F H F' H' : Hp}
theorem Al.frozen : ∀ {xs : List Sv} {vs : List V} {fp : List Addr} {G : Hp}, Ex F G → (∀ a ∈ fp, G a = H a) → Al K F H xs vs fp → RpL K G (xs.map (·.2)) vs
  | [], _, _, _, _, _, h => h.1
  | x :: xs, _, _, G, e, q, ⟨v, r, f1, f2, h1, h2, h3, h4⟩ => by
    subst h2
    exact ⟨v, r, h1, Ow.frozen e (fun a m => q a (List.mem_append_left _ m)) h3, Al.frozen e (fun a m => q a (List.mem_append_right _ m)) h4⟩
theorem Al.lv0 : ∀ {xs : List Sv} {vs : List V} {fp : List Addr}, lv0 xs = true → Al K F H xs vs fp → fp = []
  | [], _, _, _, h => h.2
  | x :: xs, _, _, q, ⟨v, r, f1, f2, h1, h2, h3, h4⟩ => by
    unfold DP.lv0 at q
    rw [List.all_cons, Bool.and_eq_true] at q
    have e : x.1 = 0 := beq_iff_eq.mp q.1
    rw [e] at h3
    rw [h2, h3.1, Al.lv0 q.2 h4]; rfl
theorem Al.notup : ∀ {xs : List Sv} {vs : List V} {fp : List Addr}, Al K F H xs vs fp → ∀ a ∈ fp, ∀ us, H a ≠ some (.tup us)
  | [], _, _, h, a, m => by rw [h.2] at m; cases m
  | x :: xs, _, _, ⟨v, r, f1, f2, h1, h2, h3, h4⟩, a, m => by
    subst h2
    rcases List.mem_append.mp m with m | m
    · exact h3.notup a m
    · exact Al.notup h4 a m
/-- F without what is at fp -/
def cut (F : Hp) (fp : List Addr) : Hp := fun a => if a ∈ fp then none else F a
theorem Gr.lent {fp : List Addr} {F2 H2 : Hp} (z : ∀ a ∈ fp, F a = none) (g : Gr (DP.frz F H fp) H F2 H2) : Gr F H (cut F2 fp) H2 where
  ff := fun a o e => by
    have m : a ∉ fp := fun m => by rw [z a m] at e; cases e
    show (if a ∈ fp then none else F2 a) = some o
    rw [if_neg m]
    exact g.ff a o (by rw [frz_out m]; exact e)
  hh := g.hh
  fh := fun a o e => by
    have e' : (if a ∈ fp then none else F2 a) = some o := e
    by_cases m : a ∈ fp
    · rw [if_pos m] at e'; cases e'
    · rw [if_neg m] at e'; exact g.fh a o e'
  nw := fun a o e nt => by
    show (if a ∈ fp then none else F2 a) = F a
    by_cases m : a ∈ fp
    · rw [if_pos m, z a m]
    · rw [if_neg m, g.nw a o e nt, frz_out m]
theorem call_of {m : List D → M Sv} {σ : L2.St} {Q : VK} (q : tD K W (fCall m gs) σ H Q) : tCallS (spD K m) (WE W) (tAw K W gs) σ H Q := by
  obtain ⟨F0, H0, F, env, s, o⟩ := q
  have o : Out (fCall m gs env) (EvOk K F H Q) (ExOk K F H W σ) := o
  refine tAw.out s (Out.imp o.bd (fun xs ox => ?_) fun _ k => k)
  intro vs F1 H1 fp g1 w1
  have z : ∀ a ∈ fp, F1 a = none := fun a m => (w1.fp a m).1
  have hc : ∀ {F2 H2 : Hp}, Gr (frz F1 H1 fp) H1 F2 H2 → ∀ a us, F2 a = some (.tup us) → cut F2 fp a = some (.tup us) := fun {F2 H2} g2 a us e => by
    by_cases mm : a ∈ fp
    · obtain ⟨_, o, ho⟩ := w1.fp a mm
      have h2 := g2.fh a _ e
      rw [g2.hh a o ho] at h2
      cases h2
      exact absurd ho (w1.notup a mm us)
    · show (if a ∈ fp then none else F2 a) = some (.tup us)
      rw [if_neg mm]; exact e
  refine ⟨frz F1 H1 fp, xs.map (·.2), frz_fh g1.fh, Al.frozen (frz_ex z) (fun a m => frz_in m) w1, ?_⟩
  unfold clR at ox
  rcases q1 : m (xs.map (·.2)) with _ | e | x
  · rw [q1] at ox; exact (Out.no ox).elim
  · rw [q1] at ox
    obtain ⟨c, ox⟩ := Out.iff (show Out (if (lv0 xs || flatX e) = true then M.er e else M.no) _ _ from ox)
    refine .inr ⟨e, q1, fun cls dd F2 H2 g2 r2 => ?_⟩
    rcases ox with ⟨y, e2, _⟩ | ⟨e2, e3, k2⟩
    · cases (Option.some.inj e2)
    · cases (Except.error.inj (Option.some.inj e3))
      refine k2.on g1 cls dd (cut F2 fp) H2 (Gr.lent z g2) ?_
      by_cases l : lv0 xs = true
      · have e := Al.lv0 l w1
        subst e
        have : cut F2 [] = F2 := by funext a; exact if_neg (by simp)
        rw [this]; exact r2
      · have fx : flatX e = true := by simpa [l] using c
        refine ⟨r2.1, ?_⟩
        obtain ⟨ec, fld⟩ := e
        cases fld with
        | none => trivial
        | some q =>
          obtain ⟨p, v, fq, h1, h2, h3, h4, h5, h6⟩ := r2.2
          refine ⟨p, v, fq, h1, h2, h3, Ow.flatN (hc g2) fx (fun a m => ?_) h4, h5, h6⟩
          show (if a ∈ fp then none else F2 a) = none
          by_cases mm : a ∈ fp
          · rw [if_pos mm]
          · rw [if_neg mm]; exact (h4.fp a m).1
  · rw [q1] at ox
    obtain ⟨c, ox⟩ := Out.iff (show Out (if (lv0 xs || flatN x.1 x.2) = true then M.ok x else M.no) _ _ from ox)
    refine .inl ⟨x, q1, fun v F2 H2 fq g2 w2 nd nw => ?_⟩
    refine (ox.ok rfl).on g1 v (cut F2 fp) H2 fq (Gr.lent z g2) ?_ nd nw
    by_cases l : lv0 xs = true
    · have e := Al.lv0 l w1
      subst e
      have : cut F2 [] = F2 := by funext a; exact if_neg (by simp)
      rw [this]; exact w2
    · have fx : flatN x.1 x.2 = true := by simpa [l] using c
      refine Ow.flatN (hc g2) fx (fun a m => ?_) w2
      show (if a ∈ fp then none else F2 a) = none
      by_cases mm : a ∈ fp
      · rw [if_pos mm]
      · rw [if_neg mm]; exact (w2.fp a m).1
theorem pd_call {CX : CXT} {k : Nat} {f : Addr} {fd : FuncData} {ps : List Str} {m : List D → M Sv} {x : Str} {p pos : Pos} {e : Expr} {es : List Expr} (G : FnOk X.prog X.w X.K X.mg X.base CX k f fd ps (spD X.K m)) (hr : Room k X.A) (hm : X.mg x = some (.ref f)) (hk : PySem.W.keepIn X.K (.ref f) = true) (hb : Binds X.K fd ps []) (hx : ∀ σ, PassesAt CX X σ (WE W σ))
    (ha : PA X (e :: es) (tAw X.K W gs)) (hg : Gl X x := by rfl) (hdb : (x == ("__debug__" : Str)) = false := by decide) (he : starEach (e :: es) X.env = (false, eval e X.env) :: starEach es X.env := by rfl) (hpl : (backTo pos (starEach es X.env)).any (·.1) = false := by rfl) :
    PE X (.Call (.Name x p) (e :: es) [] pos) (tD X.K W (fCall m gs)) := PE.imp (pe_callS G hr hg hm hk hb hx ha hdb he hpl) fun _ _ _ q => call_of q
end

/-! ### while -/
def whF (t : Env → M Bool) (g : Gs) : Nat → Gs
  | 0, _ => none
  | n + 1, env => gM (t env) env fun b => if b then (match g env with
    | some (.nx e2) => whF t g n e2
    | some (.ct e2) => whF t g n e2
    | some (.bk e2) => some (.nx e2)
    | r => r) else some (.nx env)
theorem whF_up (t : Env → M Bool) (g : Gs) : ∀ (n : Nat) (env : Env) (r : Fl), whF t g n env = some r → whF t g (n + 1) env = some r := by
  intro n
  induction n with
  | zero => intro env r h; cases h
  | succ n ih =>
    intro env r h
    unfold whF at h ⊢
    rcases gM_some h with ⟨b, e1, e2⟩ | ⟨x, e1, e2⟩
    · rw [e1]
      show (if b = true then _ else _) = some r
      cases b with
      | false => exact e2
      | true =>
        rw [if_pos rfl] at e2 ⊢
        rcases q : g env with _ | fl
        · rw [q] at e2; cases e2
        · rw [q] at e2
          cases fl with
          | nx e3 => exact ih _ _ e2
          | ct e3 => exact ih _ _ e2
          | _ => exact e2
    · rw [e1, e2]; rfl
theorem whF_le (t : Env → M Bool) (g : Gs) {n m : Nat} (h : n ≤ m) {env : Env} {r : Fl} (q : whF t g n env = some r) : whF t g m env = some r := by
  induction h with
  | refl => exact q
  | step _ ih => exact whF_up t g _ _ _ ih
open Classical in
noncomputable def gWh (t : Env → M Bool) (g : Gs) : Gs := fun env => if h : ∃ n r, whF t g n env = some r then some (Classical.choose (Classical.choose_spec h)) else none
theorem gWh_of {t : Env → M Bool} {g : Gs} {n : Nat} {env : Env} {r : Fl} (h : whF t g n env = some r) : gWh t g env = some r := by
  have ex : ∃ n r, whF t g n env = some r := ⟨n, r, h⟩
  unfold gWh
  rw [dif_pos ex]
  have q := Classical.choose_spec (Classical.choose_spec ex)
  have a := whF_le t g (Nat.le_max_left (Classical.choose ex) n) q
  have b := whF_le t g (Nat.le_max_right (Classical.choose ex) n) h
  rw [a] at b
  exact b
theorem gWh_some {t : Env → M Bool} {g : Gs} {env : Env} {r : Fl} (h : gWh t g env = some r) : ∃ n, whF t g n env = some r := by
  unfold gWh at h
  by_cases ex : ∃ n r, whF t g n env = some r
  · rw [dif_pos ex] at h
    have q := Classical.choose_spec (Classical.choose_spec ex)
    cases h
    exact ⟨_, q⟩
  · rw [dif_neg ex] at h; cases h
section
variable {X : Cx} {K : Fg} {W : WX} {J : List Nat} {c : Expr} {body : List Stmt} {pos : Pos} {t : Env → M Bool} {g : Gs}
theorem sd_while (hp : PassesOwn (model X.prog X.w) X.A X.env X.xe) (hc : PT X c (tB' K W t)) (hb : PSs X body (tS K W J g)) : PS X (.While c body [] pos) (tS K W J (gWh t g)) := PS.imp (ps_while hp hc hb) fun D σ H ⟨F0, H0, F, env, r, s, e, k⟩ => by
  obtain ⟨n, e⟩ := gWh_some e
  refine ⟨fun m σ2 H2 => ∃ F2 env2, Ex F F2 ∧ SR K F0 H0 F2 H2 σ2 env2 ∧ whF t g m env2 = some r ∧ KpJ J σ σ2, ⟨n, F, env, Ex.rfl' _, s, e, KpJ.rfl'⟩, ?_⟩
  rintro m σ2 H2 ⟨F2, env2, x2, s2, q2, z2⟩
  cases m with
  | zero => cases q2
  | succ m =>
    unfold whF at q2
    rcases gM_some q2 with ⟨b, e1, e2⟩ | ⟨x, e1, e2⟩
    · refine tB'.out s2 (.inl ⟨b, e1, fun F3 H3 g3 => ?_⟩)
      have s3 := s2.on g3
      have x3 := x2.tr g3.ff
      cases b with
      | false =>
        cases e2
        exact k σ2 F3 H3 x3 s3 z2
      | true =>
        rw [if_pos rfl] at e2
        refine ⟨fun σ4 H4 => ∃ F4 env4, Ex F F4 ∧ SR K F0 H0 F4 H4 σ4 env4 ∧ whF t g m env4 = some r ∧ KpJ J σ σ4, fun σ4 H4 n4 => ⟨m, Nat.lt_succ_self m, n4⟩, ?_⟩
        rcases q : g env2 with _ | fl
        · rw [q] at e2; cases e2
        · rw [q] at e2
          refine ⟨F0, H0, F3, env2, fl, s3, q, ?_⟩
          cases fl with
          | nx env4 => exact fun σ4 F4 H4 y s4 z4 => ⟨F4, env4, x3.tr y, s4, e2, z2.tr z4⟩
          | ct env4 => exact fun σ4 F4 H4 y s4 z4 => ⟨F4, env4, x3.tr y, s4, e2, z2.tr z4⟩
          | bk env4 => cases e2; exact (k.on x3).kp z2
          | rt v => cases e2; exact k
          | er x y => cases e2; exact (k.on x3).kp z2
          | rv x y => cases e2; exact (k.on x3).kp z2
    · subst e2
      exact tB'.out s2 (.inr ⟨x, e1, FlOk.er s2 ((k.on x2).kp z2)⟩)
end

/-! ### freezing a slot -/
def fzE (i : Nat) (env : Env) : Env := match env[i]? with
  | some (some (_, d)) => env.set i (some (0, d))
  | _ => env
theorem SR.fz {K : Fg} {F0 H0 F H : Hp} {σ : L2.St} {env : Env} (s : SR K F0 H0 F H σ env) (i : Nat) : ∃ F', Ex F F' ∧ SR K F0 H0 F' H σ (fzE i env) := by
  unfold fzE
  rcases q : env[i]? with _ | _ | ⟨n, d⟩
  · exact ⟨F, Ex.rfl' _, s⟩
  · exact ⟨F, Ex.rfl' _, s⟩
  · obtain ⟨fp, h1, h2, h3, h4⟩ := s.ex
    obtain ⟨v, e1, o⟩ := h1 i n d q
    have z : ∀ a ∈ fp i, F a = none := fun a m => (o.fp a m).1
    refine ⟨frz F H (fp i), frz_ex z, ⟨s.g.ff.tr (frz_ex z), s.g.hh, frz_fh s.fh, fun a u e nt => ?_⟩, by simpa using s.len, fun j => if j = i then [] else fp j, fun j m d' e => ?_, fun j => ?_, fun j k a ha hb => ?_, fun j a ha => ?_⟩
    · rw [frz_out fun m => by rw [h4 i a m] at e; cases e]
      exact s.g.nw a u e nt
    · dsimp only
      by_cases c : j = i
      · subst c
        rw [if_pos rfl]
        rw [List.getElem?_set_self (List.getElem?_eq_some_iff.mp q).1] at e
        cases e
        exact ⟨v, e1, rfl, Ow.frozen (frz_ex z) (fun a m => frz_in m) o⟩
      · rw [if_neg c]
        rw [List.getElem?_set_ne (Ne.symm c)] at e
        obtain ⟨u, e2, o2⟩ := h1 j m d' e
        refine ⟨u, e2, o2.more (frz_ex z) fun a ma => ?_⟩
        rw [frz_out fun mi => c (h3 j i a ma mi)]
        exact (o2.fp a ma).1
    · dsimp only
      by_cases c : j = i
      · rw [if_pos c]; exact List.nodup_nil
      · rw [if_neg c]; exact h2 j
    · dsimp only at ha hb
      by_cases c : j = i
      · rw [if_pos c] at ha; cases ha
      · by_cases c' : k = i
        · rw [if_pos c'] at hb; cases hb
        · rw [if_neg c] at ha; rw [if_neg c'] at hb; exact h3 j k a ha hb
    · dsimp only at ha
      by_cases c : j = i
      · rw [if_pos c] at ha; cases ha
      · rw [if_neg c] at ha; exact h4 j a ha
def gFz (i : Nat) (g : Gs) : Gs := fun env => g (fzE i env)
theorem tS_fz {K : Fg} {W : WX} {J : List Nat} {g : Gs} (i : Nat) {D : Ends} {σ : L2.St} {H : Hp} (q : tS K W J (gFz i g) D σ H) : tS K W J g D σ H := by
  obtain ⟨F0, H0, F, env, r, s, e, k⟩ := q
  obtain ⟨F', x, s'⟩ := s.fz i
  exact ⟨F0, H0, F', _, r, s', e, k.on x⟩
theorem sd_fz {X : Cx} {K : Fg} {W : WX} {J : List Nat} {g : Gs} {st : Stmt} (i : Nat) (p : PS X st (tS K W J g)) : PS X st (tS K W J (gFz i g)) := PS.imp p fun _ _ _ q => tS_fz i q
theorem sd_fzs {X : Cx} {K : Fg} {W : WX} {J : List Nat} {g : Gs} {st : List Stmt} (i : Nat) (p : PSs X st (tS K W J g)) : PSs X st (tS K W J (gFz i g)) := PSs.imp p fun _ _ _ q => tS_fz i q
end DP
/-! DP: dicts; all operands of +, *, <, in, []; owned lists and dicts that change. -/
namespace DP
open PySem L2

/-! ### tables as pairs -/
section
variable {κ : Type} [DecidableEq κ]
def getP (kvs : List (κ × D)) (k : κ) : Option D := (kvs.find? fun kv => decide (kv.1 = k)).map (·.2)
def putP (kvs : List (κ × D)) (k : κ) (v : D) : List (κ × D) :=
  if (kvs.any fun kv => decide (kv.1 = k)) = true then kvs.map (fun kv => if kv.1 = k then (kv.1, v) else kv) else kvs ++ [(k, v)]
def delP (kvs : List (κ × D)) (k : κ) : List (κ × D) := kvs.filter fun kv => decide (kv.1 ≠ k)
/-- a table of values stands for a table of data -/
def PR (K : Fg) (F : Hp) (kvs : List (κ × D)) (ws : List (κ × V)) : Prop := ws.map (·.1) = kvs.map (·.1) ∧ RpL K F (kvs.map (·.2)) (ws.map (·.2))
variable {K : Fg} {F : Hp}
theorem PR.nil : PR K F ([] : List (κ × D)) [] := ⟨rfl, rfl⟩
theorem PR.cons_inv {p : κ × D} {kvs : List (κ × D)} {ws : List (κ × V)} (h : PR K F (p :: kvs) ws) : ∃ q ws', ws = q :: ws' ∧ q.1 = p.1 ∧ Rp K F p.2 q.2 ∧ PR K F kvs ws' := by
  rcases ws with _ | ⟨q, ws⟩
  · have := h.1; simp at this
  · obtain ⟨h1, v, r, h2, h3, h4⟩ := h
    rw [List.map_cons] at h2
    rw [List.map_cons, List.map_cons] at h1
    injection h1 with e1 e2
    injection h2 with e3 e4
    subst e3 e4
    exact ⟨q, ws, rfl, e1, h3, e2, h4⟩
theorem PR.cons {p : κ × D} {q : κ × V} {kvs : List (κ × D)} {ws : List (κ × V)} (e : q.1 = p.1) (r : Rp K F p.2 q.2) (h : PR K F kvs ws) : PR K F (p :: kvs) (q :: ws) :=
  ⟨by rw [List.map_cons, List.map_cons, e, h.1], ⟨q.2, _, rfl, r, h.2⟩⟩
theorem PR.nil_inv {ws : List (κ × V)} (h : PR K F ([] : List (κ × D)) ws) : ws = [] := by
  have := h.1
  simpa using this
theorem PR.len {kvs : List (κ × D)} {ws : List (κ × V)} (h : PR K F kvs ws) : ws.length = kvs.length := by
  have := congrArg List.length h.1
  simpa using this
theorem PR.get : ∀ {kvs : List (κ × D)} {ws : List (κ × V)} (k : κ), PR K F kvs ws → (∀ d, getP kvs k = some d → ∃ v, valV ws k = some v ∧ Rp K F d v) ∧ (getP kvs k = none → valV ws k = none)
  | [], ws, k, h => by
    rw [h.nil_inv]
    exact ⟨(fun d e => nomatch e), fun _ => rfl⟩
  | p :: kvs, ws, k, h => by
    obtain ⟨q, ws', rfl, e, r, t⟩ := h.cons_inv
    have ih := PR.get k t
    by_cases c : p.1 = k
    · have c' : q.1 = k := e.trans c
      have g : getP (p :: kvs) k = some p.2 := by simp [getP, List.find?_cons, c]
      rw [g, valV_pos c']
      exact ⟨fun d e => by cases e; exact ⟨_, rfl, r⟩, fun z => by cases z⟩
    · have c' : ¬ q.1 = k := fun z => c (e.symm.trans z)
      have g : getP (p :: kvs) k = getP kvs k := by simp [getP, List.find?_cons, c]
      rw [g, valV_neg c']
      exact ih
theorem PR.any : ∀ {kvs : List (κ × D)} {ws : List (κ × V)} (k : κ), PR K F kvs ws → (ws.any fun kv => decide (kv.1 = k)) = kvs.any fun kv => decide (kv.1 = k)
  | [], ws, k, h => by rw [h.nil_inv]; rfl
  | p :: kvs, ws, k, h => by
    obtain ⟨q, ws', rfl, e, r, t⟩ := h.cons_inv
    rw [List.any_cons, List.any_cons, PR.any k t, e]
theorem PR.repl {d : D} {v : V} (k : κ) (rv : Rp K F d v) : ∀ {kvs : List (κ × D)} {ws : List (κ × V)}, PR K F kvs ws → PR K F (kvs.map fun kv => if kv.1 = k then (kv.1, d) else kv) (ws.map fun kv => if kv.1 = k then (kv.1, v) else kv)
  | [], ws, h => by rw [h.nil_inv]; exact .nil
  | p :: kvs, ws, h => by
    obtain ⟨q, ws', rfl, e, r, t⟩ := h.cons_inv
    rw [List.map_cons, List.map_cons]
    by_cases c : p.1 = k
    · rw [if_pos c, if_pos (e.trans c)]
      exact .cons e rv (PR.repl k rv t)
    · rw [if_neg c, if_neg fun z => c (e.symm.trans z)]
      exact .cons e r (PR.repl k rv t)
theorem PR.snoc {d : D} {v : V} {k : κ} (rv : Rp K F d v) : ∀ {kvs : List (κ × D)} {ws : List (κ × V)}, PR K F kvs ws → PR K F (kvs ++ [(k, d)]) (ws ++ [(k, v)])
  | [], ws, h => by rw [h.nil_inv]; exact .cons rfl rv .nil
  | p :: kvs, ws, h => by
    obtain ⟨q, ws', rfl, e, r, t⟩ := h.cons_inv
    exact .cons e r (PR.snoc rv t)
theorem PR.put {kvs : List (κ × D)} {ws : List (κ × V)} {d : D} {v : V} (k : κ) (h : PR K F kvs ws) (rv : Rp K F d v) : PR K F (putP kvs k d) (putK ws k v) := by
  unfold putP putK
  rw [h.any k]
  split
  · exact h.repl k rv
  · exact h.snoc rv
theorem PR.del (k : κ) : ∀ {kvs : List (κ × D)} {ws : List (κ × V)}, PR K F kvs ws → PR K F (delP kvs k) (dropK ws k)
  | [], ws, h => by rw [h.nil_inv]; exact .nil
  | p :: kvs, ws, h => by
    obtain ⟨q, ws', rfl, e, r, t⟩ := h.cons_inv
    unfold delP dropK
    rw [List.filter_cons, List.filter_cons, e]
    by_cases c : p.1 = k
    · rw [decide_eq_false (fun z : p.1 ≠ k => z c)]
      exact PR.del k t
    · rw [decide_eq_true (show p.1 ≠ k from c)]
      exact .cons e r (PR.del k t)
theorem zip_fst : ∀ {ks : List κ} {ds : List D}, ks.length = ds.length → (ks.zip ds).map (·.1) = ks
  | [], ds, _ => by simp
  | k :: ks, [], h => by cases h
  | k :: ks, d :: ds, h => by
    rw [List.zip_cons_cons, List.map_cons, zip_fst (Nat.succ.inj h)]
theorem zip_snd : ∀ {ks : List κ} {ds : List D}, ks.length = ds.length → (ks.zip ds).map (·.2) = ds
  | [], [], _ => rfl
  | [], d :: ds, h => by cases h
  | k :: ks, [], h => by cases h
  | k :: ks, d :: ds, h => by
    rw [List.zip_cons_cons, List.map_cons, zip_snd (Nat.succ.inj h)]
theorem PR.zip {ks : List κ} {ds : List D} {ws : List (κ × V)} (h1 : ws.map (·.1) = ks) (h2 : RpL K F ds (ws.map (·.2))) : PR K F (ks.zip ds) ws := by
  have l : ks.length = ds.length := by rw [h2.len, ← h1]; simp
  exact ⟨by rw [zip_fst l, h1], by rw [zip_snd l]; exact h2⟩
end
def mkT (kvs : List (List Key × D)) : D := .dT (kvs.map (·.1)) (kvs.map (·.2))
def mkK (kvs : List (Key × D)) : D := .dK (kvs.map (·.1)) (kvs.map (·.2))
/-! ### keys -/
def keyD : D → Option Key | .int i => some (.inl i) | .str x => some (.inr x) | _ => none
def keyL : List D → Option (List Key)
  | [] => some []
  | d :: ds => (keyD d).bind fun k => (keyL ds).map (k :: ·)
def keyT : D → Option (List Key) | .tup ds => keyL ds | _ => none
section
variable {K : Fg} {F H : Hp} {X : Cx} {W : WX} {Q : VK}
theorem keyD_v {d : D} {k : Key} {n : Nat} {v : V} {fp : List Addr} (h : keyD d = some k) (w : Ow K F H n d v fp) : v = kV k := by
  cases d <;> first | (cases h; done) | skip
  · cases h; exact w.int
  · cases h; exact w.str
theorem keyL_v : ∀ {ds : List D} {ks : List Key} {vs : List V}, keyL ds = some ks → RpL K F ds vs → vs = ks.map kV
  | [], ks, vs, h, r => by cases h; exact r
  | d :: ds, ks, vs, h, ⟨v, r, h1, h2, h3⟩ => by
    unfold keyL at h
    cases q : keyD d with
    | none => rw [q] at h; cases h
    | some k =>
      rw [q, Option.bind_some] at h
      cases q2 : keyL ds with
      | none => rw [q2] at h; cases h
      | some ks' =>
        rw [q2] at h; cases h
        rw [h1, keyD_v (H := F) q (Ow.z h2), keyL_v q2 h3]; rfl
theorem keyT_v {d : D} {k : List Key} {n : Nat} {v : V} {fp : List Addr} (e : Ex F H) (h : keyT d = some k) (w : Ow K F H n d v fp) : ∃ b, v = .ref b ∧ H b = some (.tup (k.map kV)) := by
  cases d <;> first | (cases h; done) | skip
  obtain ⟨_, b, vs, rfl, h2, h3⟩ := w.tup e
  rw [keyL_v h h3] at h2
  exact ⟨b, rfl, h2⟩
/-- what a dict has at a key: none: it is no dict, or no key; some none: it isn't there -/
def dGet (p : Sv) (k : D) : Option (Option D) := match p with
  | (n, .dK ks ds) => if n ≤ 1 then (keyD k).map fun k => getP (ks.zip ds) k else none
  | (n, .dT ks ds) => if n ≤ 1 then (keyT k).map fun k => getP (ks.zip ds) k else none
  | _ => none
theorem dGet_v {p q : Sv} {o : Option D} {v u : V} {fp fq : List Addr} (e : Ex F H) (w : Ow K F H p.1 p.2 v fp) (w2 : Ow K F H q.1 q.2 u fq) (h : dGet p q.2 = some o) :
    ∃ a, v = .ref a ∧ match o with | none => DGet H a u none | some d => ∃ x, DGet H a u (some x) ∧ Rp K F d x := by
  obtain ⟨n, d⟩ := p
  cases d <;> first | (cases h; done) | skip
  · rename_i ks ds
    have h' : (if n ≤ 1 then (keyD q.2).map fun k => getP (ks.zip ds) k else none) = some o := h
    by_cases c : n ≤ 1
    · rw [if_pos c] at h'
      cases qk : keyD q.2 with
      | none => rw [qk] at h'; cases h'
      | some k =>
        rw [qk] at h'
        have ho : getP (ks.zip ds) k = o := Option.some.inj h'
        obtain ⟨a, ws, rfl, h2, h3, h4⟩ := w.dK e c
        have pr := PR.zip h3 h4
        have g := pr.get k
        have eu := keyD_v qk w2
        refine ⟨a, rfl, ?_⟩
        cases o with
        | none => exact .inl ⟨ws, k, .inl h2, eu, (g.2 ho).symm⟩
        | some d =>
          obtain ⟨x, hx, rx⟩ := g.1 d ho
          exact ⟨x, .inl ⟨ws, k, .inl h2, eu, hx.symm⟩, rx⟩
    · rw [if_neg c] at h'; cases h'
  · rename_i ks ds
    have h' : (if n ≤ 1 then (keyT q.2).map fun k => getP (ks.zip ds) k else none) = some o := h
    by_cases c : n ≤ 1
    · rw [if_pos c] at h'
      cases qk : keyT q.2 with
      | none => rw [qk] at h'; cases h'
      | some k =>
        rw [qk] at h'
        have ho : getP (ks.zip ds) k = o := Option.some.inj h'
        obtain ⟨a, ws, rfl, h2, h3, h4⟩ := w.dT e c
        have pr := PR.zip h3 h4
        have g := pr.get k
        obtain ⟨b, eu, hb⟩ := keyT_v e qk w2
        refine ⟨a, rfl, ?_⟩
        cases o with
        | none => exact .inr ⟨ws, k, b, .inl h2, eu, hb, (g.2 ho).symm⟩
        | some d =>
          obtain ⟨x, hx, rx⟩ := g.1 d ho
          exact ⟨x, .inr ⟨ws, k, b, .inl h2, eu, hb, hx.symm⟩, rx⟩
    · rw [if_neg c] at h'; cases h'
/-! ### [] -/
def rIxD : R2 := fun x y H Q => ∃ a v, x = .ref a ∧ DGet H a y (some v) ∧ Q v H
theorem ix_dict (hu : X.A.units + 1 < cLine) : IxR X rIxD := by
  intro value slice pins s σ H x y v u Q I rx ry h hs
  obtain ⟨a, z, ex, g, q⟩ := h
  subst ex
  cases rx
  exact PyProof.Rows.tail_any (dict_typeIs I g) PySem.F.slot_dict_getitem.lookup (d_getItem hu I g ry fun w' s' I' r' => ⟨z, H, I', r', q⟩) hs
def oIxD : Sv → Sv → Option Sv := fun p q => match dGet p q.2 with | some (some d) => some (0, d) | _ => none
theorem vIxD : VR2 K rIxD oIxD := by
  intro F H x y p q fp fq z Q e w1 w2 h k
  unfold oIxD at h
  rcases g : dGet p q.2 with _ | _ | d
  · rw [g] at h; cases h
  · rw [g] at h; cases h
  · rw [g] at h; cases h
    obtain ⟨a, ea, v, gv, rv⟩ := dGet_v e w1 w2 g
    exact ⟨a, v, ea, gv, k.fl e rv⟩
def rIxA (K : Fg) : R2 := fun x y H Q => rIx K x y H Q ∨ rIxD x y H Q
def oIxA : Sv → Sv → Option Sv := oOr oIx oIxD
theorem vIxA : VR2 K (rIxA K) oIxA := VR2.or vIx vIxD
theorem ix_all (hu : X.A.units + 1 < cLine) : IxR X (rIxA X.K) := ix_seq.or (ix_dict hu)
theorem pd_sub {a b : Expr} {f g : Env → M Sv} {pos : Pos} (hu : X.A.units + 1 < cLine) (ha : PE X a (tW X.K W f)) (hb : PE X b (tW X.K W g)) (hs : PlainIx b := by intro _ _; rfl) : PE X (.Subscript a b pos) (tD X.K W (f2 oIxA f g)) := PE.imp (pe_ix (ix_all hu) ha hb hs) fun _ _ _ t => t2_of vIxA t
/-! ### in -/
def rInD (neg : Bool) : R2 := fun y x H Q => ∃ a o, x = .ref a ∧ DGet H a y o ∧ Q (.bl (if neg then !o.isSome else o.isSome)) H
theorem op_inD (hu : X.A.units + 1 < cLine) : OpR X (compareOp .In) (rInD false) := by
  intro pins s σ H y x u v Q I ry rx h
  obtain ⟨a, o, ex, g, q⟩ := h
  subst ex
  cases rx
  exact d_in hu I g ry fun s' I' => ⟨.bl o.isSome, H, I', rfl, q⟩
theorem op_notInD (hu : X.A.units + 1 < cLine) : OpR X (compareOp .NotIn) (rInD true) := by
  intro pins s σ H y x u v Q I ry rx h
  obtain ⟨a, o, ex, g, q⟩ := h
  subst ex
  cases rx
  exact d_notIn hu I g ry fun s' I' => ⟨.bl (!o.isSome), H, I', rfl, q⟩
def oInD (neg : Bool) : Sv → Sv → Option Sv := fun q p => (dGet p q.2).map fun o => ((0, .bl (if neg then !o.isSome else o.isSome)) : Sv)
theorem vInD {neg : Bool} : VR2 K (rInD neg) (oInD neg) := by
  intro F H x y p q fp fq z Q e w1 w2 h k
  unfold oInD at h
  rcases g : dGet q p.2 with _ | o
  · rw [g] at h; cases h
  · rw [g] at h; cases h
    obtain ⟨a, ea, gg⟩ := dGet_v e w2 w1 g
    cases o with
    | none => exact ⟨a, none, ea, gg, k.fl e rfl⟩
    | some d =>
      obtain ⟨v, gv, rv⟩ := gg
      exact ⟨a, some v, ea, gv, k.fl e rfl⟩
def rInA (K : Fg) (neg : Bool) : R2 := fun x y H Q => (rInS' neg x y H Q ∨ rIn K neg x y H Q) ∨ rInD neg x y H Q
def oInA (neg : Bool) : Sv → Sv → Option Sv := oOr (oOr (oInS neg) (oIn neg)) (oInD neg)
theorem vInA {neg : Bool} : VR2 K (rInA K neg) (oInA neg) := VR2.or (VR2.or vInS vIn) vInD
theorem op_inA (hu : X.A.units + 1 < cLine) : OpR X (compareOp .In) (rInA X.K false) := (op_inS'.or op_in_seq).or (op_inD hu)
theorem op_notInA (hu : X.A.units + 1 < cLine) : OpR X (compareOp .NotIn) (rInA X.K true) := (op_notInS'.or op_notIn_seq).or (op_notInD hu)
/-! ### +, *, < -/
def rAddA (K : Fg) : R2 := fun x y H Q => ((rI0 (fun i j => .int (i + j)) x y H Q ∨ (∃ i j, x = .str i ∧ y = .str j ∧ i.length + j.length ≤ sizeLine ∧ Q (.str (i ++ j)) H)) ∨ rCat x y H Q) ∨ rCatT K x y H Q
def oAddA : Sv → Sv → Option Sv := oOr (oOr (oOr oAdd oCatS) oCatL) oCatT
theorem vAddA : VR2 K (rAddA K) oAddA := VR2.or (VR2.or (VR2.or vAdd vCatS) vCatL) vCatT
theorem op_addA : OpR X (binaryOp .Add) (rAddA X.K) := ((op_add.or op_add_str).or op_cat).or op_catT
/-- text * int -/
theorem rep_size (a : Array Nat) : ∀ (n : Nat) (acc : Array Nat), ((List.replicate n a).foldl (· ++ ·) acc).size = acc.size + n * a.size
  | 0, acc => by simp
  | n + 1, acc => by
    rw [List.replicate_succ, List.foldl_cons, rep_size a n, Array.size_append, Nat.succ_mul]
    omega
theorem rep_nil (a : Array Nat) (h : a.size = 0) : ∀ (n : Nat) (acc : Array Nat), (List.replicate n a).foldl (· ++ ·) acc = acc
  | 0, acc => rfl
  | n + 1, acc => by
    have e : a = #[] := Array.eq_empty_of_size_eq_zero h
    rw [List.replicate_succ, List.foldl_cons, rep_nil a h n, e, Array.append_empty]
def rRepS : R2 := fun x y H Q => ∃ z k, x = .str z ∧ y = .int k ∧ 0 ≤ k ∧ k ≤ 1000 ∧ z.length ≤ 1000 ∧ Q (.str ⟨(List.replicate k.toNat z.cps).foldl (· ++ ·) #[]⟩) H
theorem op_repS : OpR X (binaryOp .Mult) rRepS := by
  intro pins s σ H x y v u Q I rx ry h
  obtain ⟨z, k, rfl, rfl, k0, k1, hz, q⟩ := h
  obtain ⟨t, rfl⟩ := rx
  obtain ⟨t', rfl⟩ := ry
  have hz' : z.length ≤ 1000 := hz
  refine PySem.P.mul_str ?_ (fun h1 h2 => ?_) (fun h1 h2 => ?_) ?_
  · rw [decide_eq_false (by omega), decide_eq_false (by omega)]; rfl
  · have a : (1 : Int) ≤ k := by omega
    have hk : (9223372036854775 : Int) ≤ (2 ^ 63 - 1) / k := by
      rw [Int.le_ediv_iff_mul_le (by omega)]
      omega
    omega
  · unfold Builtin.Str.tooLong
    have : z.length * k.toNat ≤ 1000 * 1000 := Nat.mul_le_mul hz' (by omega)
    rw [decide_eq_false]
    have hs := sizeLine_eq
    omega
  · by_cases c : k < 1
    · rw [if_pos c]
      have e : k = 0 := by omega
      subst e
      exact ⟨Nat.zero_le _, ⟨.str _, H, I.tok _, ⟨_, rfl⟩, q⟩⟩
    · rw [if_neg c]
      by_cases c2 : (k == 1 || z.length == 0) = true
      · rw [if_pos c2]
        refine ⟨.str z, H, I, ⟨t, rfl⟩, ?_⟩
        have e : (⟨(List.replicate k.toNat z.cps).foldl (· ++ ·) #[]⟩ : Str) = z := by
          obtain ⟨cs⟩ := z
          rw [Bool.or_eq_true] at c2
          rcases c2 with c2 | c2
          · have : k = 1 := beq_iff_eq.mp c2
            subst this
            show (⟨#[] ++ cs⟩ : Str) = ⟨cs⟩
            rw [Array.empty_append]
          · have hs : cs.size = 0 := beq_iff_eq.mp c2
            have hc : cs = #[] := Array.eq_empty_of_size_eq_zero hs
            show (⟨(List.replicate k.toNat cs).foldl (· ++ ·) #[]⟩ : Str) = ⟨cs⟩
            rw [rep_nil cs hs, hc]
        rw [e] at q
        exact q
      · rw [if_neg c2]
        refine ⟨?_, .str _, H, I.tok _, ⟨_, rfl⟩, q⟩
        show ((List.replicate k.toNat z.cps).foldl (· ++ ·) #[]).size ≤ sizeLine
        rw [rep_size, sizeLine_eq]
        have hz2 : z.cps.size ≤ 1000 := hz'
        have : k.toNat * z.cps.size ≤ 1000 * 1000 := Nat.mul_le_mul (by omega) hz2
        show 0 + k.toNat * z.cps.size ≤ 16777216
        omega
def strRep (x : Str) (n : Nat) : Str := ⟨(List.replicate n x.cps).foldl (· ++ ·) #[]⟩
def oRepS : Sv → Sv → Option Sv := fun p q => match p.2, q.2 with
  | .str z, .int k => if 0 ≤ k ∧ k ≤ 1000 ∧ z.length ≤ 1000 then some (0, .str (strRep z k.toNat)) else none
  | _, _ => none
theorem vRepS : VR2 K rRepS oRepS := by
  intro F H x y p q fp fq z Q e w1 w2 h k
  obtain ⟨n, d⟩ := p
  obtain ⟨m, d'⟩ := q
  cases d <;> first | (cases h; done) | skip
  cases d' <;> first | (cases h; done) | skip
  rename_i s1 j
  have h' : (if 0 ≤ j ∧ j ≤ 1000 ∧ s1.length ≤ 1000 then some ((0, .str (strRep s1 j.toNat)) : Sv) else none) = some z := h
  by_cases c : 0 ≤ j ∧ j ≤ 1000 ∧ s1.length ≤ 1000
  · rw [if_pos c] at h'
    cases h'
    exact ⟨s1, j, w1.str, w2.int, c.1, c.2.1, c.2.2, k.fl e rfl⟩
  · rw [if_neg c] at h'; cases h'
def rMulA (K : Fg) : R2 := fun x y H Q => (rI CMul (fun i j => .int (i * j)) x y H Q ∨ rRep x y H Q) ∨ rRepS x y H Q
def oMulA : Sv → Sv → Option Sv := oOr (oOr oMul oRep) oRepS
theorem vMulA : VR2 K (rMulA K) oMulA := VR2.or (VR2.or vMul vRep) vRepS
theorem op_mulA : OpR X (binaryOp .Mult) (rMulA X.K) := (op_mul.or op_rep).or op_repS
def rLtA (K : Fg) : R2 := fun x y H Q => rI0 (fun i j => .bl (decide (i < j))) x y H Q ∨ rLtT K x y H Q
def oLtA : Sv → Sv → Option Sv := oOr oLt oLtT
theorem vLtA : VR2 K (rLtA K) oLtA := VR2.or vB vLtT
theorem op_ltA (hu : X.A.units < cLine) : OpR X (compareOp .Lt) (rLtA X.K) := op_lt.or (op_ltT hu)
def rIsA : R2 := fun x y H Q => (y = .non ∧ Q (.bl (decide (x = .non))) H) ∨ rIsB x y H Q
def rIsNotA : R2 := fun x y H Q => (y = .non ∧ Q (.bl (!decide (x = .non))) H) ∨ rNotB x y H Q
def oIsA : Sv → Sv → Option Sv := oOr oIs oIsB
def oIsNotA : Sv → Sv → Option Sv := oOr oIsNot oIsNotB
theorem vIsA : VR2 K rIsA oIsA := VR2.or vIs vIsB
theorem vIsNotA : VR2 K rIsNotA oIsNotA := VR2.or vIsNot vIsNotB
theorem op_isA : OpR X (compareOp .Is) rIsA := op_isN.or op_isBl
theorem op_isNotA : OpR X (compareOp .IsNot) rIsNotA := op_notN.or op_notBl
end
end DP
/-! DP: defs of the text, in short. -/
namespace DP
open PySem L2 PySem.Spec PyProof.Rows
abbrev fK (d : D) : Env → M Sv := fun _ => M.ok (0, d)
abbrev fYes : Env → M Bool := fun _ => M.ok true
abbrev fNewT : Env → M Sv := fun _ => M.ok (1, .dT [] [])
abbrev fNewK : Env → M Sv := fun _ => M.ok (1, .dK [] [])
section
variable {X : Cx} {K : Fg} {W : WX} {pos : Pos}
theorem pd_newT : PE X (.Dict [] [] pos) (tD K W fNewT) := PE.imp pe_dnewT fun σ H Q ⟨F0, H0, F, env, s, o⟩ p hp => by
  have o : Out (fNewT env) (EvOk K F H Q) (ExOk K F H W σ) := o
  exact (Out.ok o rfl) (.ref p) F _ [p] (Gr.own s.fh hp) ⟨p, _, [], rfl, s.fh.back hp, upd_same, rfl, rfl, rfl, rfl⟩ (List.nodup_cons.mpr ⟨by simp, List.nodup_nil⟩) fun a m => by rw [List.mem_singleton] at m; rw [m]; exact hp
theorem pd_newK : PE X (.Dict [] [] pos) (tD K W fNewK) := PE.imp pe_dnewK fun σ H Q ⟨F0, H0, F, env, s, o⟩ p hp => by
  have o : Out (fNewK env) (EvOk K F H Q) (ExOk K F H W σ) := o
  exact (Out.ok o rfl) (.ref p) F _ [p] (Gr.own s.fh hp) ⟨p, _, [], rfl, s.fh.back hp, upd_same, rfl, rfl, rfl, rfl⟩ (List.nodup_cons.mpr ⟨by simp, List.nodup_nil⟩) fun a m => by rw [List.mem_singleton] at m; rw [m]; exact hp
theorem pd_gS {x : Str} {s : Str} (h : ∃ t, X.mg x = some (.str s t)) (hx : Gl X x := by rfl) (hdb : (x == ("__debug__" : Str)) = false := by decide) : PE X (.Name x pos) (tD K W (fK (.str s))) := by
  obtain ⟨t, h⟩ := h
  exact pd_c (v := .str s) (pe_glob hx h ⟨_, rfl⟩ hdb) (fun _ => rfl)
theorem pd_gI {x : Str} {n : Int} (h : ∃ t, X.mg x = some (.int n t)) (hx : Gl X x := by rfl) (hdb : (x == ("__debug__" : Str)) = false := by decide) : PE X (.Name x pos) (tD K W (fK (.int n))) := by
  obtain ⟨t, h⟩ := h
  exact pd_c (v := .int n) (pe_glob hx h ⟨_, rfl⟩ hdb) (fun _ => rfl)
theorem pgn (i : Nat) {x : Str} (hN : X.N.Nodup) (hi : X.N[i]? = some x := by rfl) (hx : Loc X.env.scope x := by first | exact .inl rfl | exact .inr rfl) (hf : X.fn x = true ∨ X.env.scope.names.lookup x = some .local := by first | exact .inl rfl | exact .inr rfl) : PG X (.Name x pos) (gName i) := pg_name hN hi hx hf
end
/-- built-in names that the text leaves alone -/
structure Bt (mg : Str → Option Value) : Prop where
  len : mg "len" = none
  str : mg "str" = none
  int : mg "int" = none
  bool : mg "bool" = none
  list : mg "list" = none
  dict : mg "dict" = none
  tuple : mg "tuple" = none
  isinstance : mg "isinstance" = none
  all : mg "all" = none
  sum : mg "sum" = none
  min : mg "min" = none
  sorted : mg "sorted" = none
  range : mg "range" = none
  enumerate : mg "enumerate" = none
  reversed : mg "reversed" = none
  set : mg "set" = none
/-- a def of the text stands at its name -/
def At (K : Fg) (mg : Str → Option Value) (x qual : Str) (st : Stmt) : Prop := ∃ f fd, Fun K x qual st f fd ∧ mg x = some (.ref f)
/-- a def keeps its promise -/
def Cal (P : Program) (w : World) (K : Fg) (mg : Str → Option Value) (base : Heap) (x : Str) (ps : List Str) (k : Nat) (m : List D → M Sv) : Prop :=
  ∃ f fd, FnOk P w K mg base (L2.CX P w) k f fd ps (spD K m) ∧ Binds K fd ps [] ∧ mg x = some (.ref f) ∧ PySem.W.keepIn K (.ref f) = true
section
variable {P : Program} {w : World} {K : Fg} {mg : Str → Option Value} {base : Heap}
theorem cal_of {x qual : Str} {st : Stmt} {N ps : List Str} {k : Nat} {g : Gs} (A : At K mg x qual st)
    (hbind : ∀ (kV doc pm : Value) (an : Option Addr) (cdv ct : Value) (us : List Value), us.length = ps.length → bindArgs (PySem.W.fnOf x qual (defArgs st) (defBody st) (defScope st) .none kV doc pm an cdv ct) ⟨us, []⟩ = pure (ps.zip us))
    (S : FnScope N ps (defScope st))
    (hb : ∀ {f : Addr} (cdv : Value) (A : Around) (outer : List PySem.Env) (s : Shared) (H : Hp) (E : XK), Room k (A.deeper (envOfC qual (defScope st) s.heap.objs.size f cdv)) →
      Takes (cxOf (L2.CX P w) P w K mg base N qual (defScope st) f cdv A outer s H E) (fun cls d _ H => E cls d H) →
      PSs (cxOf (L2.CX P w) P w K mg base N qual (defScope st) f cdv A outer s H E) (defBody st) (tS K (fun cls d _ H => E cls d H) [] g)) :
    Cal P w K mg base x ps (k + 1) (runG N ps.length g) := by
  obtain ⟨f, fd, F, hm⟩ := A
  exact ⟨f, fd, fn_D F S (fun cdv A outer s H E hr => hb cdv A outer s H E hr (takes_of rfl rfl rfl rfl)), F.binds hbind, hm, F.kp⟩
theorem fn_of {x qual : Str} {st : Stmt} {f : Addr} {fd : FuncData} {N ps : List Str} {k : Nat} {g : Gs} (F : Fun K x qual st f fd)
    (S : FnScope N ps (defScope st))
    (hb : ∀ (cdv : Value) (A : Around) (outer : List PySem.Env) (s : Shared) (H : Hp) (E : XK), Room k (A.deeper (envOfC qual (defScope st) s.heap.objs.size f cdv)) →
      Takes (cxOf (L2.CX P w) P w K mg base N qual (defScope st) f cdv A outer s H E) (fun cls d _ H => E cls d H) →
      PSs (cxOf (L2.CX P w) P w K mg base N qual (defScope st) f cdv A outer s H E) (defBody st) (tS K (fun cls d _ H => E cls d H) [] g)) :
    FnOk P w K mg base (L2.CX P w) (k + 1) f fd ps (spD K (runG N ps.length g)) :=
  fn_D F S (fun cdv A outer s H E hr => hb cdv A outer s H E hr (takes_of rfl rfl rfl rfl))
theorem Cal.imp {x : Str} {ps : List Str} {k : Nat} {m m' : List D → M Sv} (c : Cal P w K mg base x ps k m) (h : ∀ ds r, m' ds = some r → m ds = some r) : Cal P w K mg base x ps k m' := by
  obtain ⟨f, fd, G, b, hm, kp⟩ := c
  exact ⟨f, fd, G.imp (spD.imp h), b, hm, kp⟩
end
theorem pd_cal {X : Cx} {W : WX} {gs : Env → M (List Sv)} {x : Str} {ps : List Str} {k : Nat} {m : List D → M Sv} {p pos : Pos} {e : Expr} {es : List Expr} (c : Cal X.prog X.w X.K X.mg X.base x ps k m) (hr : Room k X.A) (tk : Takes X W)
    (ha : PA X (e :: es) (tAw X.K W gs)) (hg : Gl X x := by rfl) (hdb : (x == ("__debug__" : Str)) = false := by decide) (he : starEach (e :: es) X.env = (false, eval e X.env) :: starEach es X.env := by rfl) (hpl : (backTo pos (starEach es X.env)).any (·.1) = false := by rfl) :
    PE X (.Call (.Name x p) (e :: es) [] pos) (tD X.K W (fCall m gs)) := by
  obtain ⟨f, fd, G, b, hm, kp⟩ := c
  exact pd_call G hr hm kp b (fun σ => passAt tk σ) ha hg hdb he hpl
/-- the law's own end: of the script's ints it tells True -/
def spLaw (K : Fg) : Sp := fun vs H Q _ => ∃ (a : Addr) (ns : List Int), vs = [.ref a] ∧ SqL K H a (ns.map V.int) ∧ ns.length ≤ 63 ∧ ∀ H', Q (.bl true) H'
theorem RpL.intsD {K : Fg} {F : Hp} : ∀ (ns : List Int), RpL K F (ns.map D.int) (ns.map V.int)
  | [] => rfl
  | n :: ns => ⟨.int n, _, rfl, rfl, RpL.intsD ns⟩
theorem spLaw_of {K : Fg} {m : List D → M Sv} (h : ∀ ns : List Int, ns.length ≤ 63 → m [.sl (ns.map D.int)] = M.ok (0, .bl true)) (vs : List V) (H : Hp) (Q : VK) (E : XK) (q : spLaw K vs H Q E) : spD K m vs H Q E := by
  obtain ⟨a, ns, rfl, hs, hl, k⟩ := q
  refine ⟨H, [.sl (ns.map D.int)], Ex.rfl' H, ⟨.ref a, [], rfl, ⟨a, _, rfl, hs, RpL.intsD ns⟩, rfl⟩, .inl ⟨_, h ns hl, fun v F' H' fp g o _ _ => ?_⟩⟩
  rw [o.bl]
  exact k H'
theorem cx_end {P : Program} {w : World} {H : Hp} {s : Shared} {e : Value} {s' : Shared} (c : L2.CX P w [] H s (fun _ _ _ => False) e s') : False := by
  obtain ⟨_, _, _, _, _, _, _, _, _, _, _, _, z⟩ := c
  exact z
/-! ### the text by places -/
theorem at_mk {K : Fg} {mg : Str → Option Value} {h : Heap} {x qual : Str} {st : Stmt} {f : Addr} {oc : Value} {od an : Option Addr} {osl : Array (Option Value)} {kV doc pm cdv ct : Value} (X : K.In h) (G : h.Ns mainGlobals mg)
    (a : PySem.W.nsIn K mainGlobals x = some (some (.ref f)))
    (l : K.lookup f = some ⟨oc, od, .func (PySem.W.fnOf x qual (defArgs st) (defBody st) (defScope st) .none kV doc pm an cdv ct), osl⟩)
    (c : PySem.W.codeIn K cdv qual = true) (k : PySem.W.keepIn K (.ref f) = true) : At K mg x qual st :=
  ⟨f, _, fun_mk l c k, PySem.W.mg_of X G a⟩
end DP
/-! DP: reading the mirrors in plain Lean. -/
namespace DP
open PySem L2 PySem.Spec PyProof.Rows
section
variable {α β : Type}



@[simp] theorem vl_some (x : Sv) : vl (some (some x)) = some (Except.ok x) := rfl
@[simp] theorem vW_eq (i : Nat) (env : Env) : fVarW i env = vl (env[i]?) := rfl
@[simp] theorem v_eq (i : Nat) (env : Env) : fVar i env = bd (vl (env[i]?)) fun x => if x.1 = 0 then M.ok x else none := rfl
@[simp] theorem lf_some (a : α) : lf (some a) = some (Except.ok a) := rfl
@[simp] theorem lf_none : lf (none : Option α) = none := rfl
@[simp] theorem gM_ok (a : α) (env : Env) (k : α → Option Fl) : gM (some (Except.ok a)) env k = k a := rfl
@[simp] theorem gM_er (e : XD) (env : Env) (k : α → Option Fl) : gM (some (Except.error e)) env k = some (.er e env) := rfl
@[simp] theorem or_none (x : Option α) : (none : Option α).or x = x := rfl
@[simp] theorem or_some (a : α) (x : Option α) : (some a).or x = some a := rfl
end
section
variable {n m : Nat} {i j : Int} {x y : Str} {b c : Bool} {xs ys : List D}
theorem oI_i (C : Int → Int → Bool) (fn : Int → Int → D) : oI C fn (n, .int i) (m, .int j) = if C i j then some (0, fn i j) else none := rfl
@[simp] theorem addA_i : oAddA (n, .int i) (m, .int j) = some (0, .int (i + j)) := rfl
theorem addA_s (h : x.length + y.length ≤ sizeLine) : oAddA (n, .str x) (m, .str y) = some (0, .str (x ++ y)) := by
  show (((none : Option Sv).or (if x.length + y.length ≤ sizeLine then some (0, .str (x ++ y)) else none)).or _).or _ = _
  rw [if_pos h]
  rfl
theorem addA_l (h1 : n ≤ 1) (h2 : m ≤ 1) (h : xs.length + ys.length ≤ sizeLine) : oAddA (n, .lst xs) (m, .lst ys) = some (1, .lst (xs ++ ys)) := by
  show (((none : Option Sv).or none).or (if n ≤ 1 ∧ m ≤ 1 ∧ xs.length + ys.length ≤ sizeLine then some (1, .lst (xs ++ ys)) else none)).or _ = _
  rw [if_pos ⟨h1, h2, h⟩]
  rfl
theorem addA_t (h1 : xs ≠ []) (h2 : ys ≠ []) (h : xs.length + ys.length ≤ sizeLine) : oAddA (n, .tup xs) (m, .tup ys) = some (0, .tup (xs ++ ys)) := by
  show (((none : Option Sv).or none).or none).or (if xs ≠ [] ∧ ys ≠ [] ∧ xs.length + ys.length ≤ sizeLine then some (0, .tup (xs ++ ys)) else none) = _
  rw [if_pos ⟨h1, h2, h⟩]
  rfl
@[simp] theorem sub_i : oSub (n, .int i) (m, .int j) = some (0, .int (i - j)) := rfl
@[simp] theorem neg_i : oNeg (n, .int i) = some (0, .int (-i)) := rfl
theorem mulA_i (h : (-(2 ^ 64) < i ∧ i < 2 ^ 64) ∨ (-(2 ^ 64) < j ∧ j < 2 ^ 64)) : oMulA (n, .int i) (m, .int j) = some (0, .int (i * j)) := by
  have c : cMul i j = true := by
    unfold cMul
    rcases h with ⟨a, b⟩ | ⟨a, b⟩
    · rw [decide_eq_true a, decide_eq_true b]; rfl
    · rw [decide_eq_true a, decide_eq_true b]; exact Bool.or_true _
  show (((if cMul i j then some ((0, .int (i * j)) : Sv) else none)).or _).or _ = _
  rw [if_pos c]
  rfl
theorem div_i (h : 0 < j ∧ j < 1073741824) : oDiv (n, .int i) (m, .int j) = some (0, .int (i / j)) := by
  have c : cDiv i j = true := by unfold cDiv; simp [h.1, h.2]
  show (if cDiv i j then some ((0, .int (i / j)) : Sv) else none) = _
  rw [if_pos c]
theorem mod_i (h : 0 < j) : oMod (n, .int i) (m, .int j) = some (0, .int (i % j)) := by
  have c : cMod i j = true := by unfold cMod; simp [h]
  show (if cMod i j then some ((0, .int (i % j)) : Sv) else none) = _
  rw [if_pos c]
@[simp] theorem lt_i : oLt (n, .int i) (m, .int j) = some (0, .bl (decide (i < j))) := rfl
@[simp] theorem ltA_i : oLtA (n, .int i) (m, .int j) = some (0, .bl (decide (i < j))) := rfl
@[simp] theorem le_i : oLe (n, .int i) (m, .int j) = some (0, .bl (decide (i ≤ j))) := rfl
@[simp] theorem gt_i : oGt (n, .int i) (m, .int j) = some (0, .bl (decide (j < i))) := rfl
@[simp] theorem ge_i : oGe (n, .int i) (m, .int j) = some (0, .bl (decide (j ≤ i))) := rfl
@[simp] theorem asB_b : asB (n, .bl b) = some (.ok b) := rfl
@[simp] theorem asI_i : asI (n, .int i) = some (.ok (some i)) := rfl
@[simp] theorem len_l : oLen (n, .lst xs) = some (0, .int xs.length) := rfl
@[simp] theorem len_sl : oLen (n, .sl xs) = some (0, .int xs.length) := rfl
@[simp] theorem len_t : oLen (n, .tup xs) = some (0, .int xs.length) := rfl
theorem len_s (h : x.length ≤ sizeLine) : oLen (n, .str x) = some (0, .int x.length) := by
  show (if x.length ≤ sizeLine then some ((0, .int x.length) : Sv) else none) = _
  rw [if_pos h]
/-- an index that stands within -/
theorem atI_in {γ : Type} {zs : List γ} (h : 0 ≤ i) (h2 : i < zs.length) : ∃ z, zs[i.toNat]? = some z ∧ atI zs i = some z := by
  have h3 : i.toNat < zs.length := by omega
  refine ⟨zs[i.toNat], List.getElem?_eq_getElem h3, ?_⟩
  unfold atI ixN
  rw [if_pos h, if_pos h2]
  exact List.getElem?_eq_getElem h3
theorem ixA_l (h1 : n ≤ 1) (h : 0 ≤ i) (h2 : i < xs.length) : ∃ d, xs[i.toNat]? = some d ∧ oIxA (n, .lst xs) (m, .int i) = some (0, d) := by
  obtain ⟨d, a, e⟩ := atI_in h h2
  refine ⟨d, a, ?_⟩
  show ((match (if n ≤ 1 then some xs else none) with | some ds => (atI ds i).map fun d => ((0, d) : Sv) | none => none).or _) = _
  rw [if_pos h1]
  show (((atI xs i).map fun d => ((0, d) : Sv)).or _) = _
  rw [e]
  rfl
theorem ixA_sl (h : 0 ≤ i) (h2 : i < xs.length) : ∃ d, xs[i.toNat]? = some d ∧ oIxA (n, .sl xs) (m, .int i) = some (0, d) := by
  obtain ⟨d, a, e⟩ := atI_in h h2
  refine ⟨d, a, ?_⟩
  show (((atI xs i).map fun d => ((0, d) : Sv)).or _) = _
  rw [e]
  rfl
theorem ixA_t (h : 0 ≤ i) (h2 : i < xs.length) : ∃ d, xs[i.toNat]? = some d ∧ oIxA (n, .tup xs) (m, .int i) = some (0, d) := by
  obtain ⟨d, a, e⟩ := atI_in h h2
  refine ⟨d, a, ?_⟩
  show (((atI xs i).map fun d => ((0, d) : Sv)).or _) = _
  rw [e]
  rfl
theorem ixA_s (h0 : x.length ≤ sizeLine) (h : 0 ≤ i) (h2 : i < x.cps.toList.length) : ∃ d, x.cps.toList[i.toNat]? = some d ∧ oIxA (n, .str x) (m, .int i) = some (0, .str ⟨#[d]⟩) := by
  obtain ⟨d, a, e⟩ := atI_in h h2
  refine ⟨d, a, ?_⟩
  show ((if x.length ≤ sizeLine then (atI x.cps.toList i).map fun c => ((0, .str ⟨#[c]⟩) : Sv) else none).or _) = _
  rw [if_pos h0, e]
  rfl
theorem slS {lo hi : Option Int} (h : x.length ≤ sizeLine) : oSlS (n, .str x) lo hi = some (0, .str (cutS x lo hi)) := by
  show (if x.length ≤ sizeLine then some ((0, .str (cutS x lo hi)) : Sv) else none) = _
  rw [if_pos h]
theorem slL {lo hi : Option Int} (h : n ≤ 1) : oSlL (n, .lst xs) lo hi = some (1, .lst (cutD xs lo hi)) := by
  show (if n ≤ 1 then some ((1, .lst (cutD xs lo hi)) : Sv) else none) = _
  rw [if_pos h]
theorem slLsl {lo hi : Option Int} : oSlL (n, .sl xs) lo hi = some (1, .lst (cutD xs lo hi)) := rfl
theorem cutD_to (k : Nat) : cutD xs none (some (k : Int)) = xs.take (min k xs.length) := by
  show (xs.drop 0).take (HT.sIx xs.length xs.length (some (k : Int)) - 0) = _
  rw [HT.sIx_nat, List.drop_zero, Nat.sub_zero]
theorem cutD_from (k : Nat) : cutD xs (some (k : Int)) none = xs.drop k := by
  show (xs.drop (HT.sIx xs.length 0 (some (k : Int)))).take (xs.length - HT.sIx xs.length 0 (some (k : Int))) = _
  rw [HT.sIx_nat]
  by_cases h : k ≤ xs.length
  · rw [Nat.min_eq_left h, List.take_of_length_le (by rw [List.length_drop]; omega)]
  · rw [Nat.min_eq_right (by omega), List.drop_of_length_le (Nat.le_refl _), List.drop_of_length_le (by omega), List.take_nil]
@[simp] theorem setsE_c (q : Nat) (qs : List Nat) (d : D) (ds : List D) (env : Env) : setsE (q :: qs) (d :: ds) env = setsE qs ds (env.set q (some (0, d))) := rfl
@[simp] theorem setsE_n (env : Env) : setsE [] [] env = some env := rfl
end
/-! ### unfolding -/
section
variable {env : Env} {f g h : Env → M Sv} {t u : Env → M Bool} {gs : Env → M (List Sv)} {α β : Type}
@[simp] theorem e_bo (a : α) (k : α → M β) : bd (some (Except.ok a)) k = k a := rfl
@[simp] theorem e_be (e : XD) (k : α → M β) : bd (some (Except.error e)) k = some (Except.error e) := rfl
@[simp] theorem e_f2 (op : Sv → Sv → Option Sv) : f2 op f g env = bd (f env) fun x => bd (g env) fun y => lf (op x y) := rfl
@[simp] theorem e_f1 (op : Sv → Option Sv) : f1 op f env = bd (f env) fun x => lf (op x) := rfl
@[simp] theorem e_fK (d : D) : fK d env = some (.ok (0, d)) := rfl
@[simp] theorem e_fYes : fYes env = some (.ok true) := rfl
@[simp] theorem e_nT : fNewT env = some (.ok (1, .dT [] [])) := rfl
@[simp] theorem e_nK : fNewK env = some (.ok (1, .dK [] [])) := rfl
@[simp] theorem e_fT : fT f env = bd (f env) asB := rfl
@[simp] theorem e_fNot : fNot t env = bd (t env) fun k => M.ok !k := rfl
@[simp] theorem e_fAnd : fAnd t u env = bd (t env) fun k => if k then u env else M.ok false := rfl
@[simp] theorem e_fOr : fOr t u env = bd (t env) fun k => if k then M.ok true else u env := rfl
@[simp] theorem e_andV : fAndV f g env = bd (f env) fun x => bd (asB x) fun k => if k then g env else M.ok (0, .bl false) := rfl
@[simp] theorem e_orV : fOrV f g env = bd (f env) fun x => bd (asB x) fun k => if k then M.ok (0, .bl true) else g env := rfl
@[simp] theorem e_notV : fNotV f env = bd (f env) fun x => bd (asB x) fun k => M.ok (0, .bl (!k)) := rfl
@[simp] theorem e_if : fIf t f g env = bd (t env) fun k => if k then f env else g env := rfl
@[simp] theorem e_ch (op op' : Sv → Sv → Option Sv) : fChain op op' f g h env = bd (f env) fun x => bd (g env) fun y => bd (lf (op x y)) fun z => bd (asB z) fun k => if k then bd (h env) fun w => lf (op' y w) else M.ok (0, .bl false) := rfl
@[simp] theorem e_fz : fFz f env = bd (f env) fun x => M.ok (0, x.2) := rfl
@[simp] theorem e_nil : fNil env = some (.ok []) := rfl
@[simp] theorem e_cons : fCons f gs env = bd (f env) fun x => bd (gs env) fun xs => M.ok (x :: xs) := rfl
@[simp] theorem e_lst (n : Nat) : fLst n gs env = bd (gs env) fun xs => lf (oLst n xs) := rfl
@[simp] theorem e_tup : fTup gs env = bd (gs env) fun xs => lf (oTup xs) := rfl
@[simp] theorem e_fC (op : List Sv → Option Sv) : fC op gs env = bd (gs env) fun xs => lf (op xs) := rfl
@[simp] theorem e_c1 (op : Sv → Option Sv) (x : Sv) : c1 op [x] = op x := rfl
@[simp] theorem e_m1 (op : Sv → Sv → Option Sv) (x y : Sv) : m1 op x [y] = op x y := rfl
@[simp] theorem e_fM (T : String) (op : Sv → List Sv → Option Sv) : fM T op f gs env = bd (f env) fun x => if tyM x = some T then bd (gs env) fun xs => lf (op x xs) else M.no := rfl
@[simp] theorem e_sl (op : Sv → Option Int → Option Int → Option Sv) (l r : Env → M (Option Int)) : fSl op f l r env = bd (f env) fun x => bd (l env) fun i => bd (r env) fun j => lf (op x i j) := rfl
@[simp] theorem e_O0 : fO0 env = some (.ok none) := rfl
@[simp] theorem e_O1 : fO1 f env = bd (f env) asI := rfl
@[simp] theorem e_seq (k : Sv → M (List D)) : fSeq k f env = bd (f env) k := rfl
@[simp] theorem e_rg (k : List Sv → M (List D)) : fRg k gs env = bd (gs env) k := rfl
@[simp] theorem e_call (m : List D → M Sv) : fCall m gs env = bd (gs env) fun xs => clR xs (m (xs.map (·.2))) := rfl
@[simp] theorem e_isi (T : String) : fIsi T f env = bd (f env) fun x => lf (oIsi T x) := rfl
@[simp] theorem e_lc (vs : List Nat) (tg : D → Env → Option Env) (l : Env → M (List D)) : fLc vs tg t f l env = bd (l env) fun ds => lf (if ds.length ≤ sizeLine then (lcF tg t f (wipeE env vs) ds).map fun ys => ((1, .lst ys) : Sv) else none) := rfl
@[simp] theorem e_gN (i : Nat) (d : D) : gN i d env = some (env.set i (some (0, d))) := rfl
@[simp] theorem e_gT (is : List Nat) (ds : List D) : gT is (.tup ds) env = setsE is ds env := rfl
@[simp] theorem e_asL (n : Nat) (ds : List D) : asL (n, .lst ds) = some (.ok ds) := rfl
@[simp] theorem e_asLs (n : Nat) (ds : List D) : asL (n, .sl ds) = some (.ok ds) := rfl
@[simp] theorem e_asT (n : Nat) (ds : List D) : asTp (n, .tup ds) = some (.ok ds) := rfl
@[simp] theorem e_asS (n : Nat) (x : Str) : asSg (n, .str x) = some (.ok (sgD x)) := rfl
variable {g1 g2 : Gs}
@[simp] theorem e_gNil : gNil env = some (.nx env) := rfl
@[simp] theorem e_gSet (i : Nat) : gSet i f env = gM (f env) env fun x => some (.nx (env.set i (some x))) := rfl
@[simp] theorem e_gAsg (tg : D → Env → Option Env) : gAsg tg f env = gM (f env) env fun x => if x.1 = 0 then (tg x.2 env).map .nx else none := rfl
@[simp] theorem e_gRet : gRet f env = gM (f env) env fun x => some (.rt x) := rfl
@[simp] theorem e_gRetN : gRetN env = some (.rt (0, .non)) := rfl
@[simp] theorem e_gDrop : gDrop f env = gM (f env) env fun _ => some (.nx env) := rfl
@[simp] theorem e_gIf : gIf t g1 g2 env = gM (t env) env fun b => if b then g1 env else g2 env := rfl
@[simp] theorem e_gFor (tg : D → Env → Option Env) (l : Env → M (List D)) : gFor tg l g1 env = gM (l env) env fun ds => forF tg g1 ds env := rfl
@[simp] theorem e_gFz (i : Nat) : gFz i g1 env = g1 (fzE i env) := rfl
theorem gSeq_nx {e2 : Env} (h : g1 env = some (.nx e2)) : gSeq g1 g2 env = g2 e2 := by
  show (match g1 env with | some (.nx env') => g2 env' | r => r) = _
  rw [h]
theorem gSeq_rt {x : Sv} (h : g1 env = some (.rt x)) : gSeq g1 g2 env = some (.rt x) := by
  show (match g1 env with | some (.nx env') => g2 env' | r => r) = _
  rw [h]
theorem runG_rt {N : List Str} {n : Nat} {ds : List D} {x : Sv} (hl : ds.length = n) (h : g1 (env0 N ds) = some (.rt x)) : runG N n g1 ds = some (.ok x) := by
  unfold runG
  rw [if_pos hl, h]
theorem runG_er {N : List Str} {n : Nat} {ds : List D} {x : XD} {e2 : Env} (hl : ds.length = n) (h : g1 (env0 N ds) = some (.er x e2)) : runG N n g1 ds = some (.error x) := by
  unfold runG
  rw [if_pos hl, h]
theorem clR0 {xs : List Sv} {x : Sv} (h : lv0 xs = true) : clR xs (some (.ok x)) = some (.ok x) := by
  show (if (lv0 xs || flatN x.1 x.2) = true then M.ok x else M.no) = _
  rw [h]
  rfl
theorem clRf {xs : List Sv} {x : Sv} (h : flatN x.1 x.2 = true) : clR xs (some (.ok x)) = some (.ok x) := by
  show (if (lv0 xs || flatN x.1 x.2) = true then M.ok x else M.no) = _
  rw [h, Bool.or_true]
  rfl
end
@[simp] theorem clR_i (xs : List Sv) (i : Int) : clR xs (some (.ok (0, .int i))) = some (.ok (0, .int i)) := clRf rfl
@[simp] theorem clR_b (xs : List Sv) (i : Bool) : clR xs (some (.ok (0, .bl i))) = some (.ok (0, .bl i)) := clRf rfl
@[simp] theorem clR_s (xs : List Sv) (i : Str) : clR xs (some (.ok (0, .str i))) = some (.ok (0, .str i)) := clRf rfl
@[simp] theorem clR_n (xs : List Sv) : clR xs (some (.ok (0, .non))) = some (.ok (0, .non)) := clRf rfl
theorem oLst_ok {n : Nat} {xs : List Sv} (h : (xs.all fun x => x.1 == n) = true) (h2 : xs.length ≤ sizeLine) : oLst n xs = some (n + 1, .lst (xs.map (·.2))) := if_pos ⟨h, h2⟩
theorem oTup_ok {xs : List Sv} (h : (xs.all fun x => x.1 == 0) = true) (h2 : xs.length ≤ sizeLine) : oTup xs = some (0, .tup (xs.map (·.2))) := if_pos ⟨h, h2⟩
theorem small_le {n : Nat} (h : n ≤ 100000) : n ≤ sizeLine := by rw [sizeLine_eq]; omega
/-! ### comprehensions and loops -/
theorem lcF_of {t : D → Env → Option Env} {c : Env → M Bool} {e : Env → M Sv} {env : Env} (p : D → Bool) (h : D → D) : ∀ (ds : List D), (∀ d ∈ ds, ∃ env', t d env = some env' ∧ c env' = some (.ok (p d)) ∧ (p d = true → e env' = some (.ok (0, h d)))) → lcF t c e env ds = some ((ds.filter p).map h)
  | [], _ => rfl
  | d :: ds, H => by
    obtain ⟨env', e1, e2, e3⟩ := H d (List.mem_cons_self ..)
    have ih := lcF_of p h ds fun x m => H x (List.mem_cons_of_mem _ m)
    unfold lcF
    rw [e1]
    simp only [e2]
    cases hp : p d with
    | false =>
      rw [List.filter_cons_of_neg (by rw [hp]; simp)]
      exact ih
    | true =>
      rw [List.filter_cons_of_pos hp]
      simp only [e3 hp, ih]
      rfl
theorem lcF_map {t : D → Env → Option Env} {e : Env → M Sv} {env : Env} (h : D → D) (ds : List D) (H : ∀ d ∈ ds, ∃ env', t d env = some env' ∧ e env' = some (.ok (0, h d))) : lcF t fYes e env ds = some (ds.map h) := by
  have := lcF_of (t := t) (c := fYes) (e := e) (env := env) (fun _ => true) h ds fun d m => by
    obtain ⟨env', a, b⟩ := H d m
    exact ⟨env', a, rfl, fun _ => b⟩
  rw [this, List.filter_eq_self.mpr (fun _ _ => rfl)]
theorem forF_inv {t : D → Env → Option Env} {g : Gs} (I : Env → Prop) : ∀ (ds : List D), (∀ d ∈ ds, ∀ env, I env → ∃ e1 e2, t d env = some e1 ∧ g e1 = some (.nx e2) ∧ I e2) → ∀ env, I env → ∃ env', forF t g ds env = some (.nx env') ∧ I env'
  | [], _, env, i => ⟨env, rfl, i⟩
  | d :: ds, H, env, i => by
    obtain ⟨e1, e2, a, b, i2⟩ := H d (List.mem_cons_self ..) env i
    obtain ⟨env', e, i'⟩ := forF_inv I ds (fun x m => H x (List.mem_cons_of_mem _ m)) e2 i2
    refine ⟨env', ?_, i'⟩
    show (match t d env with | none => none | some env' => match g env' with | some (.nx env2) => forF t g ds env2 | some (.ct env2) => forF t g ds env2 | some (.bk env2) => some (.nx env2) | r => r) = _
    rw [a]
    show (match g e1 with | some (.nx env2) => forF t g ds env2 | some (.ct env2) => forF t g ds env2 | some (.bk env2) => some (.nx env2) | r => r) = _
    rw [b]
    exact e
theorem len2 {α : Type} {l : List α} (h : l.length = 2) : ∃ a b, l = [a, b] := by
  match l, h with | [a, b], _ => exact ⟨a, b, rfl⟩
end DP
/-! DP: texts and truths, read in plain Lean. -/
namespace DP
open PySem L2 PySem.Spec PyProof.Rows
def sq (r : Option Fl) (g : Gs) : Option Fl := match r with
  | some (.nx e) => g e
  | r => r
@[simp] theorem e_gSeq (g1 g2 : Gs) (env : Env) : gSeq g1 g2 env = sq (g1 env) g2 := rfl
@[simp] theorem sq_nx (e : Env) (g : Gs) : sq (some (.nx e)) g = g e := rfl
@[simp] theorem sq_rt (x : Sv) (g : Gs) : sq (some (.rt x)) g = some (.rt x) := rfl
@[simp] theorem sq_er (x : XD) (e : Env) (g : Gs) : sq (some (.er x e)) g = some (.er x e) := rfl
@[simp] theorem sq_bk (e : Env) (g : Gs) : sq (some (.bk e)) g = some (.bk e) := rfl
@[simp] theorem sq_ct (e : Env) (g : Gs) : sq (some (.ct e)) g = some (.ct e) := rfl
def cs (x : Str) : List Nat := x.cps.toList
def TxOk (x : Str) : Prop := ∀ c ∈ cs x, c < 0x110000
theorem cs_len (x : Str) : (cs x).length = x.length := Array.length_toList
theorem cs_app (x y : Str) : cs (x ++ y) = cs x ++ cs y := Array.toList_append
theorem cs_cut (z : Str) (lo hi : Option Int) : cs (cutS z lo hi) = ((cs z).drop (HT.sIx z.length 0 lo)).take (HT.sIx z.length z.length hi - HT.sIx z.length 0 lo) := rfl
theorem cs_inj {x y : Str} (h : cs x = cs y) : x = y := by
  obtain ⟨⟨x⟩⟩ := x
  obtain ⟨⟨y⟩⟩ := y
  have h' : x = y := h
  rw [h']
theorem TxOk.app {x y : Str} (h : TxOk x) (k : TxOk y) : TxOk (x ++ y) := fun c m => by
  rw [cs_app] at m
  rcases List.mem_append.mp m with m | m
  · exact h c m
  · exact k c m
theorem TxOk.cut {x : Str} (h : TxOk x) (lo hi : Option Int) : TxOk (cutS x lo hi) := fun c m => by
  rw [cs_cut] at m
  exact h c (List.mem_of_mem_drop (List.mem_of_mem_take m))
theorem cs_join0 (ys : List Str) : cs (Txt.join "" ys) = (ys.map cs).flatten := by
    show cs (PySem.Builtin.Str.glued "" ys) = _
    rw [PySem.StrLaws.glued_eq_join]
    induction ys with
    | nil => rfl
    | cons y r ih =>
      cases r with
      | nil => show cs y = cs y ++ []; rw [List.append_nil]
      | cons z r =>
        show cs (y ++ "" ++ Str.join "" (z :: r)) = cs y ++ ((z :: r).map cs).flatten
        rw [cs_app, cs_app, ih]
        rw [show cs ("" : Str) = [] from rfl, List.append_nil]
theorem strOk_of {x : Str} (h : TxOk x) : PyData.strOk x = true := by
  unfold PyData.strOk
  rw [Array.all_eq_true_iff_forall_mem]
  exact fun c m => decide_eq_true (h c (Array.mem_toList_iff.mpr m))
/-! ### kinds -/
section
variable {n : Nat} {b : Bool} {i : Int} {x : Str} {xs : List D} {ks : List (List Key)} {k1 : List Key}
@[simp] theorem isi_ss : oIsi "str" (n, .str x) = some (0, .bl true) := rfl
@[simp] theorem isi_si : oIsi "str" (n, .int i) = some (0, .bl false) := rfl
@[simp] theorem isi_sb : oIsi "str" (n, .bl b) = some (0, .bl false) := rfl
@[simp] theorem isi_sn : oIsi "str" (n, .non) = some (0, .bl false) := rfl
@[simp] theorem isi_sl : oIsi "str" (n, .lst xs) = some (0, .bl false) := rfl
@[simp] theorem isi_st : oIsi "str" (n, .tup xs) = some (0, .bl false) := rfl
@[simp] theorem isi_sd : oIsi "str" (n, .dT ks xs) = some (0, .bl false) := rfl
@[simp] theorem isi_sk : oIsi "str" (n, .dK k1 xs) = some (0, .bl false) := rfl
@[simp] theorem isi_is : oIsi "int" (n, .str x) = some (0, .bl false) := rfl
@[simp] theorem isi_ii : oIsi "int" (n, .int i) = some (0, .bl true) := rfl
@[simp] theorem isi_ib : oIsi "int" (n, .bl b) = some (0, .bl true) := rfl
@[simp] theorem isi_in : oIsi "int" (n, .non) = some (0, .bl false) := rfl
@[simp] theorem isi_il : oIsi "int" (n, .lst xs) = some (0, .bl false) := rfl
@[simp] theorem isi_it : oIsi "int" (n, .tup xs) = some (0, .bl false) := rfl
@[simp] theorem isi_id : oIsi "int" (n, .dT ks xs) = some (0, .bl false) := rfl
@[simp] theorem isi_ik : oIsi "int" (n, .dK k1 xs) = some (0, .bl false) := rfl
@[simp] theorem isi_bs : oIsi "bool" (n, .str x) = some (0, .bl false) := rfl
@[simp] theorem isi_bi : oIsi "bool" (n, .int i) = some (0, .bl false) := rfl
@[simp] theorem isi_bb : oIsi "bool" (n, .bl b) = some (0, .bl true) := rfl
@[simp] theorem isi_bn : oIsi "bool" (n, .non) = some (0, .bl false) := rfl
@[simp] theorem isi_bl : oIsi "bool" (n, .lst xs) = some (0, .bl false) := rfl
@[simp] theorem isi_bt : oIsi "bool" (n, .tup xs) = some (0, .bl false) := rfl
@[simp] theorem isi_bd : oIsi "bool" (n, .dT ks xs) = some (0, .bl false) := rfl
@[simp] theorem isi_bk : oIsi "bool" (n, .dK k1 xs) = some (0, .bl false) := rfl
end
@[simp] theorem inA_s (n m c : Nat) (z : Str) : oInA false (n, .str ⟨#[c]⟩) (m, .str z) = some (0, .bl (decide (c ∈ cs z))) := rfl
@[simp] theorem notInA_s (n m c : Nat) (z : Str) : oInA true (n, .str ⟨#[c]⟩) (m, .str z) = some (0, .bl (!decide (c ∈ cs z))) := rfl
/-! ### comprehensions over what is written -/
theorem lcF_ofc {γ : Type} (mk : γ → D) {t : D → Env → Option Env} {c : Env → M Bool} {e : Env → M Sv} {env : Env} (p : γ → Bool) (h : γ → D) : ∀ (ds : List γ), (∀ d ∈ ds, ∃ env', t (mk d) env = some env' ∧ c env' = some (.ok (p d)) ∧ (p d = true → e env' = some (.ok (0, h d)))) → lcF t c e env (ds.map mk) = some ((ds.filter p).map h)
  | [], _ => rfl
  | d :: ds, H => by
    obtain ⟨env', e1, e2, e3⟩ := H d (List.mem_cons_self ..)
    have ih := lcF_ofc mk p h ds fun x m => H x (List.mem_cons_of_mem _ m)
    rw [List.map_cons]
    unfold lcF
    rw [e1]
    simp only [e2]
    cases hp : p d with
    | false =>
      rw [List.filter_cons_of_neg (by rw [hp]; simp)]
      exact ih
    | true =>
      rw [List.filter_cons_of_pos hp]
      simp only [e3 hp, ih]
      rfl
theorem lcF_mapc {γ : Type} (mk : γ → D) {t : D → Env → Option Env} {e : Env → M Sv} {env : Env} (h : γ → D) (ds : List γ) (H : ∀ d ∈ ds, ∃ env', t (mk d) env = some env' ∧ e env' = some (.ok (0, h d))) : lcF t fYes e env (ds.map mk) = some (ds.map h) := by
  have := lcF_ofc mk (t := t) (c := fYes) (e := e) (env := env) (fun _ => true) h ds fun d m => by
    obtain ⟨env', a, b⟩ := H d m
    exact ⟨env', a, rfl, fun _ => b⟩
  rw [this, List.filter_eq_self.mpr (fun _ _ => rfl)]
theorem bls_mapc {γ : Type} (p : γ → Bool) : ∀ zs : List γ, bls (zs.map fun z => D.bl (p z)) = some (zs.map p)
  | [] => rfl
  | z :: r => by
    show (bls (r.map fun z => D.bl (p z))).map (p z :: ·) = _
    rw [bls_mapc p r]
    rfl
theorem all_map {γ : Type} (p : γ → Bool) (zs : List γ) : oAll (1, .lst (zs.map fun z => D.bl (p z))) = some (0, .bl (zs.all p)) := by
  show (if 1 ≤ 1 then (bls (zs.map fun z => D.bl (p z))).map fun bs => ((0, .bl (bs.all id)) : Sv) else none) = _
  rw [bls_mapc, if_pos (Nat.le_refl 1)]
  show some ((0, .bl ((zs.map p).all id)) : Sv) = _
  rw [List.all_map]
  rfl
theorem txs_mapc {γ : Type} (p : γ → Str) : ∀ zs : List γ, txs (zs.map fun z => D.str (p z)) = some (zs.map p)
  | [] => rfl
  | z :: r => by
    show (txs (r.map fun z => D.str (p z))).map (p z :: ·) = _
    rw [txs_mapc p r]
    rfl
theorem ints_mapc {γ : Type} (p : γ → Int) : ∀ zs : List γ, intsOf (zs.map fun z => D.int (p z)) = some (zs.map p)
  | [] => rfl
  | z :: r => by
    show (intsOf (r.map fun z => D.int (p z))).map (p z :: ·) = _
    rw [ints_mapc p r]
    rfl
/-! ### equality of what is written -/
theorem pydL_mapc {γ : Type} (p : γ → D) : ∀ zs : List γ, pydL (zs.map p) = zs.map fun z => pyd (p z)
  | [] => rfl
  | z :: r => by
    show pyd (p z) :: pydL (r.map p) = _
    rw [pydL_mapc p r]
    rfl
theorem lay_str {x : Str} (h : TxOk x) : (pyd (.str x)).canLay0 = true := by
  show PyData.canLay0 (.str x) = true
  rw [PyData.canLay0]
  exact strOk_of h
/-- a list of things that lie flat -/
theorem shp_lst : ∀ xs : List D, (∀ d ∈ xs, (pyd d).canLay0 = true ∧ (pyd d).depth ≤ 62) → shp (.lst xs) = true := fun xs h => by
  have h1 : ∀ xs : List D, (∀ d ∈ xs, (pyd d).canLay0 = true ∧ (pyd d).depth ≤ 62) → PyData.canLayAll0 (pydL xs) = true ∧ PyData.depthAll (pydL xs) ≤ 62 := by
    intro xs
    induction xs with
    | nil => intro _; exact ⟨rfl, by rw [show pydL [] = [] from rfl, PyData.depthAll]; omega⟩
    | cons d r ih =>
      intro h
      obtain ⟨a, b⟩ := ih fun x m => h x (List.mem_cons_of_mem _ m)
      obtain ⟨a', b'⟩ := h d (List.mem_cons_self ..)
      constructor
      · show PyData.canLayAll0 (pyd d :: pydL r) = true
        rw [PyData.canLayAll0, a, a']; rfl
      · show PyData.depthAll (pyd d :: pydL r) ≤ 62
        rw [PyData.depthAll]; omega
  obtain ⟨a, b⟩ := h1 xs h
  show ((PyData.list (pydL xs)).canLay0 && decide ((PyData.list (pydL xs)).depth ≤ 64)) = true
  rw [PyData.canLay0, PyData.depth, a, decide_eq_true (by omega)]
  rfl
theorem flat_lay {d : D} (h : flat d = true) (hs : ∀ x, d = .str x → TxOk x) : (pyd d).canLay0 = true ∧ (pyd d).depth ≤ 62 := by
  cases d with
  | non => exact ⟨rfl, by show PyData.depth .none ≤ 62; rw [PyData.depth]; omega⟩
  | bl b => exact ⟨rfl, by show PyData.depth (.bool b) ≤ 62; rw [PyData.depth]; omega⟩
  | int i => exact ⟨rfl, by show PyData.depth (.int i) ≤ 62; rw [PyData.depth]; omega⟩
  | str x => exact ⟨lay_str (hs x rfl), by show PyData.depth (.str x) ≤ 62; rw [PyData.depth]; omega⟩
  | _ => cases h
theorem eq_ok {n m : Nat} {d e : D} (h1 : shp d = true) (h2 : shp e = true) : oEq (n, d) (m, e) = some (0, .bl (eqD d e)) := by
  show (if shp d && shp e then some ((0, .bl (eqD d e)) : Sv) else none) = _
  rw [h1, h2]
  rfl
theorem ne_ok {n m : Nat} {d e : D} (h1 : shp d = true) (h2 : shp e = true) : oNe (n, d) (m, e) = some (0, .bl (!eqD d e)) := by
  show (if shp d && shp e then some ((0, .bl (!eqD d e)) : Sv) else none) = _
  rw [h1, h2]
  rfl
theorem eqD_nil (xs : List D) : eqD (.lst xs) (.lst []) = xs.isEmpty := by
  cases xs with
  | nil => rfl
  | cons d r => rfl
theorem shp_nil : shp (.lst []) = true := shp_lst [] (fun _ m => nomatch m)
theorem rg_ok {n : Nat} {i : Int} (h : -(2 ^ 62) ≤ i ∧ i < 2 ^ 62) : asR1 [(n, .int i)] = some (.ok (rgD 0 i.toNat)) := if_pos h
theorem join_ok {n m : Nat} {a : Str} {γ : Type} (zs : List γ) (p : γ → Str) (hm : m ≤ 1) (h : ((zs.map p).map (·.length)).sum + (zs.map p).length * a.length ≤ 16777216) : oJoin (n, .str a) (m, .lst (zs.map fun z => D.str (p z))) = some (0, .str (Txt.join a (zs.map p))) := by
  show ((if m ≤ 1 then some (zs.map fun z => D.str (p z)) else none).bind fun ds => (txs ds).bind fun ys => if (ys.map (·.length)).sum + ys.length * a.length ≤ 16777216 then some ((0, .str (Txt.join a ys)) : Sv) else none) = _
  rw [if_pos hm]
  show ((txs (zs.map fun z => D.str (p z))).bind fun ys => if (ys.map (·.length)).sum + ys.length * a.length ≤ 16777216 then some ((0, .str (Txt.join a ys)) : Sv) else none) = _
  rw [txs_mapc]
  exact if_pos h
end DP
namespace DP
theorem pick_of {γ δ : Type} [Inhabited δ] {l : List γ} {R : γ → δ → Prop} (h : ∀ i ∈ l, ∃ c, R i c) : ∃ f : γ → δ, ∀ i ∈ l, R i (f i) := by
  have h' : ∀ i, ∃ c, i ∈ l → R i c := fun i => by
    by_cases m : i ∈ l
    · obtain ⟨c, q⟩ := h i m
      exact ⟨c, fun _ => q⟩
    · exact ⟨default, fun m' => absurd m' m⟩
  exact ⟨fun i => (h' i).choose, fun i m => (h' i).choose_spec m⟩
end DP
namespace DP
theorem sq_for {t : D → Env → Option Env} {g g2 : Gs} {ds : List D} {env : Env} {r : Option Fl} (I : Env → Prop) (hi : I env) (hb : ∀ d ∈ ds, ∀ env, I env → ∃ e1 e2, t d env = some e1 ∧ g e1 = some (.nx e2) ∧ I e2) (hk : ∀ env', I env' → g2 env' = r) : sq (forF t g ds env) g2 = r := by
  obtain ⟨env', e, i⟩ := forF_inv I ds hb env hi
  rw [e]
  exact hk env' i
end DP
namespace DP
theorem ex_nx {t : D → Env → Option Env} {g : Gs} {d : D} {env e1 : Env} {I : Env → Prop} (h1 : t d env = some e1) (h2 : ∃ e2, g e1 = some (.nx e2) ∧ I e2) : ∃ e1 e2, t d env = some e1 ∧ g e1 = some (.nx e2) ∧ I e2 := by
  obtain ⟨e2, a, b⟩ := h2
  exact ⟨e1, e2, h1, a, b⟩
theorem log2_small {n : Nat} (h : n < 10 ^ 500) : n.log2 < 1920 := by
  by_cases h0 : n = 0
  · rw [h0]; decide
  · exact (Nat.log2_lt h0).mpr (Nat.lt_of_lt_of_le h (by decide))
theorem str_int {n : Nat} {i : Int} (h : i.natAbs < 10 ^ 500) : oStr (n, .int i) = some (0, .str (PySem.Str.ofString (toString i))) := by
  show (if i.natAbs.log2 < 1920 then some ((0, .str (toString i)) : Sv) else none) = _
  rw [if_pos (log2_small h)]
end DP
namespace DP
theorem ex_set {i : Nat} {f : Env → M Sv} {g : Gs} {env : Env} {x : Sv} {I : Env → Prop} (h : f env = some (.ok x)) (k : ∃ e2, g (env.set i (some x)) = some (.nx e2) ∧ I e2) : ∃ e2, gSeq (gSet i f) g env = some (.nx e2) ∧ I e2 := by
  rw [e_gSeq, e_gSet, h]
  exact k
end DP
namespace DP
@[simp] theorem oLst_nil (n : Nat) : oLst n [] = some (n + 1, .lst []) := rfl
end DP
/-! DP: owned objects that change in place. -/
namespace DP
open PySem L2 PySem.Spec PyProof.Rows
section
variable {K : Fg} {F0 H0 F H F' H' F1 H1 : Hp} {σ : L2.St} {env : Env}
/-- footprints of the known slots alone, all of them tracked -/
theorem SR.tight (s : SR K F0 H0 F H σ env) : ∃ fr : Nat → List Addr, (∀ j n d, env[j]? = some (some (n, d)) → ∃ v, σ[j]? = some (some v) ∧ Ow K F H n d v (fr j)) ∧ (∀ j, (fr j).Nodup) ∧ (∀ j k a, a ∈ fr j → a ∈ fr k → j = k) ∧ (∀ j a, a ∈ fr j → H0 a = none) ∧ ∀ j a, a ∈ fr j → H a ≠ none := by
  obtain ⟨fr, q1, q2, q3, q4⟩ := s.ex
  have inn : ∀ j a, a ∈ (match env[j]? with | some (some _) => fr j | _ => []) → a ∈ fr j ∧ ∃ x, env[j]? = some (some x) := by
    intro j a h
    revert h
    split
    · rename_i x e; exact fun h => ⟨h, x, e⟩
    · intro z; cases z
  refine ⟨fun j => match env[j]? with | some (some _) => fr j | _ => [], ?_, ?_, ?_, ?_, ?_⟩
  · intro j n d e
    dsimp only
    rw [e]; exact q1 j n d e
  · intro j
    show List.Nodup (match env[j]? with | some (some _) => fr j | _ => [])
    split
    · exact q2 j
    · exact List.nodup_nil
  · exact fun j k a ha hb => q3 j k a (inn j a ha).1 (inn k a hb).1
  · exact fun j a ha => q4 j a (inn j a ha).1
  · intro j a ha
    obtain ⟨h1, ⟨m, d'⟩, e⟩ := inn j a ha
    obtain ⟨v', _, ow⟩ := q1 j m d' e
    obtain ⟨_, o', ho⟩ := ow.fp a h1
    rw [ho]; exact fun z => by cases z
/-- what is owned stands where nothing else at its addresses has changed -/
theorem Ow.stay : ∀ {n : Nat} {d : D} {v : V} {fp : List Addr}, (∀ a ∈ fp, ∀ o, H a = some o → H' a = some o) → Ow K F H n d v fp → Ow K F H' n d v fp
  | 0, _, _, _, _, h => h
  | n + 1, d, v, _, q, ⟨a, o, r, h1, h2, h3, h4, h5⟩ => by
    subst h4
    refine ⟨a, o, r, h1, h2, q a List.mem_cons_self o h3, rfl, ?_⟩
    have step : ∀ {ds : List D} {vs : List V}, OwL (Ow K F H n) ds vs r → OwL (Ow K F H' n) ds vs r := fun {ds vs} w =>
      OwL.cong (fun d' _ v' r' z w' => Ow.stay (fun b mb => q b (List.mem_cons_of_mem _ (z b mb))) w') w
    cases d <;> cases o <;> first
      | exact h5.elim
      | exact step h5
      | exact ⟨h5.1, step h5.2⟩
      | exact ⟨h5.1, h5.2.1, step h5.2.2⟩
theorem Ow.step {n : Nat} {d : D} {v : V} {fp : List Addr} (e : Ex F F') (z : ∀ a ∈ fp, F' a = none) (q : ∀ a ∈ fp, ∀ o, H a = some o → H' a = some o) (w : Ow K F H n d v fp) : Ow K F' H' n d v fp := (w.stay q).more e z
/-- a slot's object changes in place -/
theorem SR.mut (s : SR K F0 H0 F H σ env) (g : Gr F H F1 H1) {i n : Nat} {d : D} (q : env[i]? = some (some (n, d))) {R : Prop}
    (h : ∀ v fp, σ[i]? = some (some v) → Ow K F1 H1 n d v fp → fp.Nodup → (∀ a ∈ fp, H0 a = none ∧ H a ≠ none) →
      (∀ F' H' n' d' fp', Ex F1 F' → Ex F' H' → Ow K F' H' n' d' v fp' → fp'.Nodup → (∀ a ∈ fp', a ∈ fp ∨ H a = none) → (∀ b o, b ∉ fp → H1 b = some o → H' b = some o ∧ (NT o → F' b = F1 b)) → SR K F0 H0 F' H' σ (env.set i (some (n', d')))) → R) : R := by
  obtain ⟨fr, q1, q2, q3, q4, q5⟩ := s.tight
  obtain ⟨v, hv, ow⟩ := q1 i n d q
  have hi : i < env.length := (List.getElem?_eq_some_iff.mp q).1
  refine h v (fr i) hv (ow.mono g) (q2 i) (fun a m => ⟨q4 i a m, q5 i a m⟩) fun F' H' n' d' fp' ef fh' ow' nd' sub st => ?_
  have f0 : ∀ b o, F1 b = some o → b ∉ fr i := fun b o e m => by
    have := ((ow.mono g).fp b m).1
    rw [e] at this; cases this
  refine ⟨⟨(s.g.ff.tr g.ff).tr ef, fun a o e => ?_, fh', fun a o e nt => ?_⟩, by simpa using s.len, fun j => if j = i then fp' else fr j, ?_, ?_, ?_, ?_⟩
  · exact (st a o (fun m => by have := q4 i a m; rw [e] at this; cases this) (g.hh _ _ (s.g.hh a o e))).1
  · exact ((st a o (fun m => by have := q4 i a m; rw [e] at this; cases this) (g.hh _ _ (s.g.hh a o e))).2 nt).trans <| (g.nw a o (s.g.hh a o e) nt).trans (s.g.nw a o e nt)
  · intro j m d2 e
    dsimp only
    by_cases hj : j = i
    · subst hj
      rw [if_pos rfl]
      rw [List.getElem?_set_self hi] at e
      cases e
      exact ⟨v, hv, ow'⟩
    · rw [if_neg hj]
      rw [List.getElem?_set_ne (Ne.symm hj)] at e
      obtain ⟨u, e1, e2⟩ := q1 j m d2 e
      have w1 := e2.mono g
      have ni : ∀ a ∈ fr j, a ∉ fr i := fun a ma mi => hj (q3 j i a ma mi)
      exact ⟨u, e1, w1.step ef (fun a ma => by
        obtain ⟨z1, o, z2⟩ := w1.fp a ma
        rw [(st a o (ni a ma) z2).2 fun us e => w1.notup a ma us (by rw [z2, e])]; exact z1) fun a ma o e => (st a o (ni a ma) e).1⟩
  · intro j
    by_cases hj : j = i
    · simp only [hj, if_pos]; exact nd'
    · simp only [if_neg hj]; exact q2 j
  · intro j k a ha hb
    by_cases hj : j = i
    · by_cases hk : k = i
      · rw [hj, hk]
      · simp only [hj, if_pos] at ha
        simp only [if_neg hk] at hb
        rcases sub a ha with z | z
        · exact absurd (q3 i k a z hb) (Ne.symm hk)
        · exact absurd z (q5 k a hb)
    · by_cases hk : k = i
      · simp only [if_neg hj] at ha
        simp only [hk, if_pos] at hb
        rcases sub a hb with z | z
        · exact absurd (q3 j i a ha z) hj
        · exact absurd z (q5 j a ha)
      · simp only [if_neg hj] at ha
        simp only [if_neg hk] at hb
        exact q3 j k a ha hb
  · intro j a ha
    by_cases hj : j = i
    · simp only [hj, if_pos] at ha
      rcases sub a ha with z | z
      · exact q4 i a z
      · exact s.g.hh.back z
    · simp only [if_neg hj] at ha
      exact q4 j a ha
/-! ### an item within -/
theorem OwL.at : ∀ {R : D → V → List Addr → Prop} {ds : List D} {vs : List V} {r : List Addr} {k : Nat} {d : D}, OwL R ds vs r → ds[k]? = some d →
    ∃ u r1 r2 r3, vs[k]? = some u ∧ r = r1 ++ (r2 ++ r3) ∧ R d u r2 ∧ ∀ (R' : D → V → List Addr → Prop) (d' : D) (r2' : List Addr) (u' : V), (∀ d v q, (∀ a ∈ q, a ∈ r1 ∨ a ∈ r3) → R d v q → R' d v q) → R' d' u' r2' → OwL R' (ds.set k d') (vs.set k u') (r1 ++ (r2' ++ r3))
  | R, [], vs, r, k, d, _, e => by cases e
  | R, x :: xs, _, _, 0, d, ⟨v, vr, r1, r2, h1, h2, h3, h4⟩, e => by
    cases e
    subst h1 h2
    refine ⟨v, [], r1, r2, rfl, rfl, h3, fun R' d' r2' u' f w => ?_⟩
    exact ⟨u', vr, r2', r2, rfl, rfl, w, OwL.cong (fun d2 _ v2 q z w2 => f d2 v2 q (fun a m => .inr (z a m)) w2) h4⟩
  | R, x :: xs, _, _, k + 1, d, ⟨v, vr, q1, q2, h1, h2, h3, h4⟩, e => by
    subst h1 h2
    obtain ⟨u, r1, r2, r3, e1, e2, e3, e4⟩ := OwL.at h4 e
    subst e2
    refine ⟨u, q1 ++ r1, r2, r3, e1, by rw [List.append_assoc], e3, fun R' d' r2' u' f w => ?_⟩
    refine ⟨v, vr.set k u', q1, r1 ++ (r2' ++ r3), rfl, by rw [List.append_assoc], f x v q1 (fun a m => .inl (List.mem_append_left _ m)) h3, e4 R' d' r2' u' (fun d2 v2 q z w2 => f d2 v2 q (fun a m => ?_) w2) w⟩
    rcases z a m with m | m
    · exact .inl (List.mem_append_right _ m)
    · exact .inr m
end
end DP
/-! DP: places within what is owned. -/
namespace DP
open PySem L2 PySem.Spec PyProof.Rows
def kids : D → List D | .lst ds => ds | .ins _ _ ds => ds | _ => []
def setKids : D → List D → D | .lst _, ds => .lst ds | .ins C fs _, ds => .ins C fs ds | d, _ => d
def vkids : HO → List V | .lst vs => vs | .ins _ _ ws => ws.map (·.2) | _ => []
def nav : List Nat → Nat → D → Option (Nat × D)
  | [], n, d => some (n, d)
  | k :: p, n + 1, d => ((kids d)[k]?).bind (nav p n)
  | _ :: _, 0, _ => none
def putN : List Nat → D → D → D
  | [], _, e => e
  | k :: p, d, e => match (kids d)[k]? with
    | some x => setKids d ((kids d).set k (putN p x e))
    | none => d
def NavV (H : Hp) : List Nat → V → V → Prop
  | [], v, u => v = u
  | k :: p, v, u => ∃ a o x, v = .ref a ∧ H a = some o ∧ (vkids o)[k]? = some x ∧ NavV H p x u
theorem NavV.on {H H' : Hp} (e : Ex H H') : ∀ {p : List Nat} {v u : V}, NavV H p v u → NavV H' p v u
  | [], _, _, h => h
  | k :: p, v, u, ⟨a, o, x, h1, h2, h3, h4⟩ => ⟨a, o, x, h1, e a o h2, h3, NavV.on e h4⟩
theorem set_same {α : Type} {l : List α} {k : Nat} {x : α} (h : l[k]? = some x) : l.set k x = l := by
  apply List.ext_getElem?
  intro j
  by_cases e : j = k
  · subst e; rw [h, List.getElem?_set_self (List.getElem?_eq_some_iff.mp h).1]
  · rw [List.getElem?_set_ne (Ne.symm e)]
section
variable {K : Fg} {F0 H0 F H F' H' F1 H1 : Hp} {σ : L2.St} {env : Env}
theorem OwO.kids {R : D → V → List Addr → Prop} {d : D} {o : HO} {r : List Addr} {k : Nat} {x : D} (h : OwO R d o r) (e : (kids d)[k]? = some x) :
    ∃ u r1 r2 r3, (vkids o)[k]? = some u ∧ r = r1 ++ (r2 ++ r3) ∧ R x u r2 ∧ ∀ (R' : D → V → List Addr → Prop) (d' : D) (r2' : List Addr), (∀ d v q, (∀ a ∈ q, a ∈ r1 ∨ a ∈ r3) → R d v q → R' d v q) → R' d' u r2' → OwO R' (setKids d ((DP.kids d).set k d')) o (r1 ++ (r2' ++ r3)) := by
  cases d with
  | lst ds =>
    cases o with
    | lst vs =>
      obtain ⟨u, r1, r2, r3, e1, e2, e3, e4⟩ := OwL.at h e
      refine ⟨u, r1, r2, r3, e1, e2, e3, fun R' d' r2' f w => ?_⟩
      have z := e4 R' d' r2' u f w
      rw [set_same e1] at z
      exact z
    | _ => exact h.elim
  | ins C fs ds =>
    cases o with
    | ins C' dx ws =>
      obtain ⟨c1, c2, c3⟩ := h
      obtain ⟨u, r1, r2, r3, e1, e2, e3, e4⟩ := OwL.at c3 e
      refine ⟨u, r1, r2, r3, e1, e2, e3, fun R' d' r2' f w => ?_⟩
      have z := e4 R' d' r2' u f w
      rw [set_same e1] at z
      exact ⟨c1, c2, z⟩
    | _ => exact h.elim
  | _ => cases e
theorem Ow.nav : ∀ {p : List Nat} {n : Nat} {d : D} {v : V} {fp : List Addr} {n' : Nat} {e : D}, Ow K F H n d v fp → fp.Nodup → nav p n d = some (n', e) →
    ∃ u sub, NavV H p v u ∧ Ow K F H n' e u sub ∧ sub.Nodup ∧ (∀ a ∈ sub, a ∈ fp) ∧ ∀ F' H' e' sub', Ex F F' → Ow K F' H' n' e' u sub' → sub'.Nodup → (∀ a ∈ sub', a ∈ sub ∨ a ∉ fp) → (∀ b o, b ∈ fp → b ∉ sub → H b = some o → H' b = some o ∧ (NT o → F' b = F b)) → ∃ fp', Ow K F' H' n (putN p d e') v fp' ∧ fp'.Nodup ∧ ∀ a ∈ fp', (a ∈ fp ∧ a ∉ sub) ∨ a ∈ sub'
  | [], n, d, v, fp, n', e, h, nd, q => by
    cases q
    exact ⟨v, fp, rfl, h, nd, fun _ m => m, fun F' H' e' sub' _ o' nd' _ _ => ⟨sub', o', nd', fun _ m => .inr m⟩⟩
  | k :: p, 0, d, v, fp, n', e, h, nd, q => by cases q
  | k :: p, n + 1, d, v, _, n', e, ⟨a, o, r, h1, h2, h3, h4, h5⟩, nd, q => by
    subst h4
    cases ek : (kids d)[k]? with
    | none => rw [DP.nav, ek] at q; cases q
    | some x =>
      rw [DP.nav, ek] at q
      have q : DP.nav p n x = some (n', e) := q
      obtain ⟨u0, r1, r2, r3, e1, e2, e3, e4⟩ := h5.kids ek
      subst e2
      rw [List.nodup_cons] at nd
      obtain ⟨na, nr⟩ := nd
      have nr' := nr
      rw [List.nodup_append, List.nodup_append] at nr
      obtain ⟨n1, ⟨n2, n3, n23⟩, n123⟩ := nr
      obtain ⟨u, sub, v1, o1, nds, ss, up⟩ := Ow.nav e3 n2 q
      refine ⟨u, sub, ⟨a, o, u0, h1, h3, e1, v1⟩, o1, nds, fun b m => List.mem_cons_of_mem _ (List.mem_append_right _ (List.mem_append_left _ (ss b m))), fun F' H' e' sub' ef o' nd' di st => ?_⟩
      have asub : a ∉ sub := fun m => na (List.mem_append_right _ (List.mem_append_left _ (ss a m)))
      obtain ⟨fc, oc, ndc, sc⟩ := up F' H' e' sub' ef o' nd' (fun b m => (di b m).imp id fun z m2 => z (List.mem_cons_of_mem _ (List.mem_append_right _ (List.mem_append_left _ m2)))) fun b o m2 => st b o (List.mem_cons_of_mem _ (List.mem_append_right _ (List.mem_append_left _ m2)))
      have out : ∀ b ∈ fc, b ∉ r1 ∧ b ∉ r3 ∧ b ≠ a := by
        intro b m
        have two : ∀ b ∈ r2, b ∉ r1 ∧ b ∉ r3 ∧ b ≠ a := fun b m2 =>
          ⟨fun m1 => n123 b m1 b (List.mem_append_left _ m2) rfl, fun m3 => n23 b m2 b m3 rfl, fun e => na (by rw [← e]; exact List.mem_append_right _ (List.mem_append_left _ m2))⟩
        rcases sc b m with m2 | ms
        · exact two b m2.1
        · rcases di b ms with z | z
          · exact two b (ss b z)
          · exact ⟨fun m1 => z (List.mem_cons_of_mem _ (List.mem_append_left _ m1)), fun m3 => z (List.mem_cons_of_mem _ (List.mem_append_right _ (List.mem_append_right _ m3))), fun e => z (by rw [e]; exact List.mem_cons_self)⟩
      refine ⟨a :: (r1 ++ (fc ++ r3)), ?_, ?_, ?_⟩
      · rw [putN, ek]
        have ns : ∀ b, (b ∈ r1 ∨ b ∈ r3) → b ∉ sub := fun b z ms => by
          rcases z with z | z
          · exact n123 b z b (List.mem_append_left _ (ss b ms)) rfl
          · exact n23 b (ss b ms) b z rfl
        have inr' : ∀ b, (b ∈ r1 ∨ b ∈ r3) → b ∈ a :: (r1 ++ (r2 ++ r3)) := fun b z => by
          rcases z with z | z
          · exact List.mem_cons_of_mem _ (List.mem_append_left _ z)
          · exact List.mem_cons_of_mem _ (List.mem_append_right _ (List.mem_append_right _ z))
        refine ⟨a, o, _, h1, ((st a o List.mem_cons_self asub h3).2 h5.nt).trans h2, (st a o List.mem_cons_self asub h3).1, rfl, e4 _ _ fc (fun d2 v2 q2 z w => w.step ef (fun b mb => ?_) fun b mb o2 eb => (st b o2 (inr' b (z b mb)) (ns b (z b mb)) eb).1) oc⟩
        obtain ⟨z1, o2, z2⟩ := w.fp b mb
        rw [(st b o2 (inr' b (z b mb)) (ns b (z b mb)) z2).2 fun us e => w.notup b mb us (by rw [z2, e])]; exact z1
      · rw [List.nodup_cons, List.nodup_append, List.nodup_append]
        refine ⟨fun m => ?_, n1, ⟨ndc, n3, fun b mb c mc e => (out b mb).2.1 (by rw [e]; exact mc)⟩, fun b mb c mc e => ?_⟩
        · rcases List.mem_append.mp m with m | m
          · exact na (List.mem_append_left _ m)
          · rcases List.mem_append.mp m with m | m
            · exact (out a m).2.2 rfl
            · exact na (List.mem_append_right _ (List.mem_append_right _ m))
        · rcases List.mem_append.mp mc with m | m
          · exact (out c m).1 (by rw [← e]; exact mb)
          · exact n123 b mb c (List.mem_append_right _ m) e
      · intro b m
        rcases List.mem_cons.mp m with m | m
        · rw [m]; exact .inl ⟨List.mem_cons_self, asub⟩
        · rcases List.mem_append.mp m with m | m
          · exact .inl ⟨List.mem_cons_of_mem _ (List.mem_append_left _ m), fun ms => n123 b m b (List.mem_append_left _ (ss b ms)) rfl⟩
          · rcases List.mem_append.mp m with m | m
            · rcases sc b m with z | z
              · exact .inl ⟨List.mem_cons_of_mem _ (List.mem_append_right _ (List.mem_append_left _ z.1)), z.2⟩
              · exact .inr z
            · exact .inl ⟨List.mem_cons_of_mem _ (List.mem_append_right _ (List.mem_append_right _ m)), fun ms => n23 b (ss b ms) b m rfl⟩
/-- an object within a slot changes in place -/
theorem SR.mutP (s : SR K F0 H0 F H σ env) (g : Gr F H F1 H1) {i n : Nat} {d : D} (q : env[i]? = some (some (n, d))) {p : List Nat} {n' : Nat} {e : D} (hn : nav p n d = some (n', e)) {R : Prop}
    (h : ∀ v u sub, σ[i]? = some (some v) → NavV H p v u → Ow K F1 H1 n' e u sub → sub.Nodup → (∀ a ∈ sub, F1 a = none ∧ H0 a = none ∧ H a ≠ none) →
      (∀ F' H' e' sub', Ex F1 F' → Ex F' H' → Ow K F' H' n' e' u sub' → sub'.Nodup → (∀ a ∈ sub', a ∈ sub ∨ H a = none) → (∀ b o, b ∉ sub → H1 b = some o → H' b = some o ∧ (NT o → F' b = F1 b)) → SR K F0 H0 F' H' σ (env.set i (some (n, putN p d e')))) → R) : R := by
  obtain ⟨fr, q1, q2, q3, q4, q5⟩ := s.tight
  obtain ⟨v0, hv0, ow0⟩ := q1 i n d q
  obtain ⟨u0, sub0, nv0, _, _, _, _⟩ := Ow.nav ow0 (q2 i) hn
  refine s.mut g q fun v fp hv ow nd ht up => ?_
  have ev : v = v0 := by
    rw [hv0] at hv; cases hv; rfl
  subst ev
  obtain ⟨u, sub, nv, o1, nds, ss, st⟩ := Ow.nav ow nd hn
  have nvd : ∀ {p : List Nat} {v u u' : V}, NavV H1 p v u → NavV H1 p v u' → u = u' := by
    intro p
    induction p with
    | nil => intro v u u' a b; exact a.symm.trans b
    | cons k p ih =>
      rintro v u u' ⟨a, o, x, h1, h2, h3, h4⟩ ⟨a', o', x', h1', h2', h3', h4'⟩
      subst h1
      cases h1'
      rw [h2] at h2'; cases h2'
      rw [h3] at h3'; cases h3'
      exact ih h4 h4'
  have eu : u = u0 := nvd nv (nv0.on g.hh)
  refine h v u sub hv (by rw [eu]; exact nv0) o1 nds (fun a m => ⟨(o1.fp a m).1, ht a (ss a m)⟩) fun F' H' e' sub' ef fh' o' nd' di st' => ?_
  · obtain ⟨fp', o2, nd2, s2⟩ := st F' H' e' sub' ef o' nd' (fun a m => (di a m).imp id fun z m2 => (ht a m2).2 z) fun b o _ => st' b o
    exact up F' H' n (putN p d e') fp' ef fh' o2 nd2 (fun a m => (s2 a m).elim (fun z => .inl z.1) fun z => (di a z).elim (fun w => .inl (ss a w)) .inr) fun b o m eb => st' b o (fun m2 => m (ss b m2)) eb
/-- the frozen heap stays as it is -/
theorem SR.mutP0 (s : SR K F0 H0 F H σ env) (g : Gr F H F1 H1) {i n : Nat} {d : D} (q : env[i]? = some (some (n, d))) {p : List Nat} {n' : Nat} {e : D} (hn : nav p n d = some (n', e)) {R : Prop}
    (h : ∀ v u sub, σ[i]? = some (some v) → NavV H p v u → Ow K F1 H1 n' e u sub → sub.Nodup → (∀ a ∈ sub, F1 a = none ∧ H0 a = none ∧ H a ≠ none) →
      (∀ H' e' sub', Ow K F1 H' n' e' u sub' → sub'.Nodup → (∀ a ∈ sub', a ∈ sub ∨ H a = none) → (∀ b o, b ∉ sub → H1 b = some o → H' b = some o) → SR K F0 H0 F1 H' σ (env.set i (some (n, putN p d e')))) → R) : R :=
  s.mutP g q hn fun v u sub h1 h2 h3 h4 h5 up => h v u sub h1 h2 h3 h4 h5 fun H' e' sub' o nd di st =>
    up F1 H' e' sub' (Ex.rfl' _) (fun a o' e => st a o' (fun m => by rw [(h5 a m).1] at e; cases e) (g.fh a o' e)) o nd di fun b o' m e => ⟨st b o' m e, fun _ => rfl⟩
end
end DP
/-! DP: places, items that are stored, expressions that change what is owned. -/
namespace DP
open PySem L2 PySem.Spec PyProof.Rows
/-- a place within slot i -/
structure Pl where
  i : Nat
  p : Env → M (List Nat)
def plGet (P : Pl) (env : Env) : M (List Nat × Sv × Sv) := bd (P.p env) fun p => bd (vl (env[P.i]?)) fun x => lf ((nav p x.1 x.2).map fun y => (p, x, y))
def tPl (K : Fg) (P : Pl) : TE := fun σ H Q => ∃ F0 H0 F env p x y, SR K F0 H0 F H σ env ∧ plGet P env = M.ok (p, x, y) ∧ ∀ v u F' H', Gr F H F' H' → σ[P.i]? = some (some v) → NavV H' p v u → Q u H'
theorem plGet_ok {P : Pl} {env : Env} {p : List Nat} {x y : Sv} (h : plGet P env = M.ok (p, x, y)) : P.p env = M.ok p ∧ env[P.i]? = some (some x) ∧ nav p x.1 x.2 = some y := by
  rcases bd_cases h with ⟨p', e1, h⟩ | ⟨_, _, e⟩
  · rcases bd_cases h with ⟨x', e2, h⟩ | ⟨_, _, e⟩
    · obtain ⟨a, e3, e4⟩ := lf_ok h
      cases q : nav p' x'.1 x'.2 with
      | none => rw [q] at e3; cases e3
      | some z =>
        rw [q] at e3
        cases e3
        cases e4
        exact ⟨e1, vl_ok e2, q⟩
    · cases e
  · cases e
section
variable {X : Cx} {W : WX} {K : Fg} {J : List Nat} {F0 H0 F H F1 H1 : Hp} {σ : L2.St} {env : Env}
/-- the slot itself -/
abbrev plS (i : Nat) : Pl := ⟨i, fun _ => M.ok []⟩
theorem pl_var {i : Nat} {x : Str} {pos : Pos} (h : PE X (.Name x pos) (tVar i)) : PE X (.Name x pos) (tPl K (plS i)) := PE.imp h fun σ H Q ⟨F0, H0, F, env, p, x, y, s, e, k⟩ => by
  obtain ⟨e1, e2, e3⟩ := plGet_ok e
  cases e1
  obtain ⟨fr, q1, _, _, _⟩ := s.ex
  obtain ⟨v, hv, _⟩ := q1 _ _ _ e2
  exact ⟨v, hv, k v v F H (Gr.refl s.fh) hv rfl⟩
/-- a field of the slot -/
def fldIx (f : Str) (d : D) : Option Nat := match d with | .ins _ fs _ => if fs.findIdx (· == f) < fs.length then some (fs.findIdx (· == f)) else none | _ => none
abbrev plF (C : Addr) (i : Nat) (f : Str) : Pl := ⟨i, fun env => bd (vl (env[i]?)) fun x => match x.2 with | .ins C' fs _ => if C' = C ∧ fs.findIdx (· == f) < fs.length then M.ok [fs.findIdx (· == f)] else M.no | _ => M.no⟩
theorem lookup_ix {fs : List (Str × V)} {f : Str} {k : Nat} {u : V} (hk : (fs.map (·.1)).findIdx (· == f) = k) (hu : (fs.map (·.2))[k]? = some u) : fs.lookup f = some u := by
  induction fs generalizing k with
  | nil => cases hu
  | cons p r ih =>
    obtain ⟨a, b⟩ := p
    rw [List.map_cons, List.findIdx_cons] at hk
    rw [List.lookup_cons]
    by_cases c : a = f
    · subst c
      have : (a == a) = true := beq_self_eq_true a
      rw [this] at hk
      cases hk
      rw [this]
      rw [List.map_cons] at hu
      simpa using hu
    · have c1 : (a == f) = false := beq_eq_false_iff_ne.mpr c
      have c2 : (f == a) = false := beq_eq_false_iff_ne.mpr (Ne.symm c)
      rw [c1] at hk
      rw [c2]
      have hk : (r.map (·.1)).findIdx (· == f) + 1 = k := by simpa using hk
      subst hk
      rw [List.map_cons, List.getElem?_cons_succ] at hu
      exact ih rfl hu
theorem pl_fld {C : Addr} {i : Nat} {x f : Str} {pos fpos : Pos} (c : Cls X.K C) (n : NoAttr X.K C f) (h : PE X (.Name x pos) (tVar i)) (hb : attributeBase (.Name x pos) f X.env (eval (.Name x pos) X.env) = eval (.Name x pos) X.env := by rfl) :
    PE X (.Attribute (.Name x pos) f fpos) (tPl K (plF C i f)) := PE.imp (pe_fld h hb) fun σ H Q ⟨F0, H0, F, env, p, x, y, s, e, k⟩ => by
  obtain ⟨e1, e2, e3⟩ := plGet_ok e
  obtain ⟨fr, q1, _, _, _⟩ := s.ex
  obtain ⟨v, hv, ow⟩ := q1 _ _ _ e2
  obtain ⟨n1, d⟩ := x
  have e1 : bd (vl (env[i]?)) (fun x => match x.2 with | .ins C' fs _ => if C' = C ∧ fs.findIdx (· == f) < fs.length then M.ok [fs.findIdx (· == f)] else M.no | _ => M.no) = M.ok p := e1
  rw [show env[i]? = some (some (n1, d)) from e2] at e1
  cases d with
  | ins C' fs ds =>
    have e1 : (if C' = C ∧ fs.findIdx (· == f) < fs.length then M.ok [fs.findIdx (· == f)] else M.no) = M.ok p := e1
    by_cases cc : C' = C ∧ fs.findIdx (· == f) < fs.length
    · rw [if_pos cc] at e1
      cases e1
      obtain ⟨rfl, cl⟩ := cc
      cases n1 with
      | zero => cases e3
      | succ n1 =>
        obtain ⟨a, o, r, h1, h2, h3, h4, h5⟩ := ow
        cases o with
        | ins C2 dx ws =>
          obtain ⟨h6, h7, h8⟩ := h5
          subst h6
          have hl : ws.length = fs.length := by rw [← h7, List.length_map]
          have hu : (ws.map (·.2))[fs.findIdx (· == f)]? = some ((ws.map (·.2))[fs.findIdx (· == f)]'(by rw [List.length_map, hl]; exact cl)) := List.getElem?_eq_getElem _
          refine ⟨v, hv, a, C2, dx, ws, _, h1, h3, c, n, lookup_ix (by rw [h7]) hu, ?_⟩
          exact k v _ F H (Gr.refl s.fh) hv ⟨a, _, _, h1, h3, hu, rfl⟩
        | _ => exact h5.elim
    · rw [if_neg cc] at e1; cases e1
  | _ => cases e1
/-- an item of the slot's list -/
abbrev plE (i : Nat) (f : Env → M Sv) : Pl := ⟨i, fun env => bd (vl (env[i]?)) fun x => bd (f env) fun y => match x.2, y.2 with | .lst ds, .int j => lf ((ixN ds.length j).map fun n => [n]) | _, _ => M.no⟩
theorem pl_ix {i : Nat} {x : Str} {b : Expr} {f : Env → M Sv} {pos spos : Pos} (h : PE X (.Name x pos) (tVar i)) (hb : PE X b (tW X.K W f)) (hs : PlainIx b := by intro _ _; rfl) : PE X (.Subscript (.Name x pos) b spos) (tPl X.K (plE i f)) := PE.imp (pe_ix ix_seq h hb hs) fun σ H Q ⟨F0, H0, F, env, p, x, y, s, e, k⟩ => by
  obtain ⟨e1, e2, e3⟩ := plGet_ok e
  obtain ⟨fr, q1, _, _, _⟩ := s.ex
  obtain ⟨v, hv, ow⟩ := q1 _ _ _ e2
  obtain ⟨n1, d⟩ := x
  have e1 : bd (vl (env[i]?)) (fun x => bd (f env) fun y => match x.2, y.2 with | .lst ds, .int j => lf ((ixN ds.length j).map fun n => [n]) | _, _ => M.no) = M.ok p := e1
  rw [show env[i]? = some (some (n1, d)) from e2] at e1
  have e1 : bd (f env) (fun y => match d, y.2 with | .lst ds, .int j => lf ((ixN ds.length j).map fun n => [n]) | _, _ => M.no) = M.ok p := e1
  rcases bd_cases e1 with ⟨⟨m, dj⟩, ef, e1⟩ | ⟨_, _, ee⟩
  · refine ⟨v, hv, tW.go s ef fun w F1 H1 fp g o => ?_⟩
    cases d with
    | lst ds =>
      cases dj with
      | int j =>
        have e1 : lf ((ixN ds.length j).map fun n => [n]) = M.ok p := e1
        obtain ⟨pp, e4, e5⟩ := lf_ok e1
        cases e5
        cases ej : ixN ds.length j with
        | none => rw [ej] at e4; cases e4
        | some jn =>
          rw [ej] at e4
          cases e4
          cases n1 with
          | zero => cases e3
          | succ n1 =>
            obtain ⟨a, o2, r, h1, h2, h3, h4, h5⟩ := ow
            cases o2 with
            | lst vs =>
              have hl : ds.length = vs.length := OwL.len h5
              have hlt : jn < vs.length := by
                have := (ixN_seq ej).2.1
                rw [← hl]; exact this
              have hu : vs[jn]? = some vs[jn] := List.getElem?_eq_getElem hlt
              refine .inl ⟨a, vs, j, vs[jn], h1, o.int, .inl (.inl (g.hh _ _ h3)), ?_, ?_⟩
              · unfold atI
                rw [← hl, ej]
                exact hu
              · exact k v _ F1 H1 g hv ⟨a, _, _, h1, g.hh _ _ h3, hu, rfl⟩
            | _ => exact h5.elim
      | _ => cases e1
    | _ => cases e1
  · cases ee
/-! ### expressions that change what is owned: the value is plain -/
abbrev RU := Except (XD × Env) (D × Env)
abbrev MU := Option RU
def UOk (K : Fg) (F0 H0 Fb : Hp) (W : WX) (σ : L2.St) (Q : VK) : RU → Prop
  | .error x => ∀ cls dd F' H', Ex Fb F' → SR K F0 H0 F' H' σ x.2 → ExR K H0 F' H' cls dd x.1 → W cls dd σ H'
  | .ok x => ∀ v F' H', Ex Fb F' → SR K F0 H0 F' H' σ x.2 → Rp K F' x.1 v → Q v H'
def tU (K : Fg) (W : WX) (u : Env → MU) : TE := fun σ H Q => ∃ F0 H0 F env r, SR K F0 H0 F H σ env ∧ u env = some r ∧ UOk K F0 H0 F W σ Q r
/-- a plain step ahead of it -/
def mB {α : Type} (m : M α) (env : Env) (k : α → MU) : MU := match m with
  | none => none
  | some (.error e) => some (.error (e, env))
  | some (.ok a) => k a
theorem mB_some {α : Type} {m : M α} {env : Env} {k : α → MU} {r : RU} (h : mB m env k = some r) : (∃ a, m = M.ok a ∧ k a = some r) ∨ ∃ e, m = M.er e ∧ r = .error (e, env) := by
  rcases m with _ | e | a
  · cases h
  · exact .inr ⟨e, rfl, (Option.some.inj h).symm⟩
  · exact .inl ⟨a, rfl, h⟩
def mP {α : Type} (m : M α) (k : α → MU) : MU := match m with
  | some (.ok a) => k a
  | _ => none
theorem mP_some {α : Type} {m : M α} {k : α → MU} {r : RU} (h : mP m k = some r) : ∃ a, m = M.ok a ∧ k a = some r := by
  rcases m with _ | e | a
  · cases h
  · cases h
  · exact ⟨a, rfl, h⟩
theorem UOk.er (s : SR K F0 H0 F H σ env) {Q : VK} {e : XD} (k : UOk K F0 H0 F W σ Q (.error (e, env))) : ExOk K F H W σ e := fun cls dd F' H' g r => k cls dd F' H' g.ff (s.on g) (r.on s.g.hh)
theorem NavV.det {H : Hp} : ∀ {p : List Nat} {v u u' : V}, NavV H p v u → NavV H p v u' → u = u'
  | [], _, _, _, a, b => a.symm.trans b
  | k :: p, _, _, _, ⟨a, o, x, h1, h2, h3, h4⟩, ⟨a', o', x', h1', h2', h3', h4'⟩ => by
    subst h1
    cases h1'
    rw [h2] at h2'; cases h2'
    rw [h3] at h3'; cases h3'
    exact NavV.det h4 h4'
def asLst (y : Sv) : Option (Nat × List D) := match y with | (n + 1, .lst ds) => some (n, ds) | _ => none
theorem asLst_some {y : Sv} {n : Nat} {ds : List D} (h : asLst y = some (n, ds)) : y = (n + 1, .lst ds) := by
  obtain ⟨m, d⟩ := y
  cases m with
  | zero => cases h
  | succ m => cases d <;> first | (cases h; rfl) | cases h
def uApp (P : Pl) (f : Env → M Sv) (env : Env) : MU := mP (plGet P env) fun r => mP (lf (asLst r.2.2)) fun q => mB (f env) env fun y => if y.1 = q.1 ∧ q.2.length < sizeLine then some (.ok (.non, env.set P.i (some (r.2.1.1, putN r.1 r.2.1.2 (.lst (q.2 ++ [y.2])))))) else none
theorem OwL.snoc {R : D → V → List Addr → Prop} {d : D} {v : V} {q : List Addr} (w : R d v q) : ∀ {ds : List D} {vs : List V} {r : List Addr}, OwL R ds vs r → OwL R (ds ++ [d]) (vs ++ [v]) (r ++ q)
  | [], _, _, h => by
    obtain ⟨rfl, rfl⟩ := h
    exact ⟨v, [], q, [], rfl, (List.append_nil q).symm, w, rfl, rfl⟩
  | x :: xs, _, _, ⟨u, vr, r1, r2, h1, h2, h3, h4⟩ => by
    subst h1 h2
    exact ⟨u, vr ++ [v], r1, r2 ++ q, rfl, by rw [List.append_assoc], h3, OwL.snoc w h4⟩
/-- the list at a place -/
theorem lst_at (s : SR K F0 H0 F H σ env) {P : Pl} {p : List Nat} {x : Sv} {n : Nat} {ds : List D} (eP : plGet P env = M.ok (p, x, (n + 1, .lst ds))) {v u : V} (e : Ex H H1) (hv : σ[P.i]? = some (some v)) (nv : NavV H1 p v u) : ∃ a xs, u = .ref a ∧ H a = some (.lst xs) ∧ xs.length = ds.length := by
  obtain ⟨e1, e2, e3⟩ := plGet_ok eP
  obtain ⟨fr, q1, q2, _, _⟩ := s.ex
  obtain ⟨v0, hv0, ow⟩ := q1 _ _ _ e2
  obtain ⟨u0, sub, nv0, o1, _, _, _⟩ := Ow.nav ow (q2 _) e3
  rw [hv] at hv0
  cases hv0
  have := NavV.det nv (nv0.on e)
  subst this
  obtain ⟨a, o, r, h1, h2, h3, h4, h5⟩ := o1
  cases o with
  | lst xs => exact ⟨a, xs, h1, h3, (OwL.len h5).symm⟩
  | _ => exact h5.elim
theorem pu_app {P : Pl} {o a : Expr} {f : Env → M Sv} {apos cpos : Pos} (ho : PE X o (tPl X.K P)) (ha : PE X a (tD X.K W f))
    (hbase : attributeBase o "append" X.env (eval o X.env) = eval o X.env := by rfl)
    (hfew : ((backTo cpos (starEach [a] X.env)).all (fun x => !x.1) && (backToKw cpos (keywordEach [] X.env)).all (fun x => x.1.isSome)
      && decide ([a].length + ([] : List Keyword).length + (if ([] : List Keyword).isEmpty then 0 else 1) < 30)) = true := by rfl)
    (hline : (apos.endLine == cpos.line) = true := by rfl) (hs : starEach [a] X.env = (false, eval a X.env) :: starEach [] X.env := by rfl) (hplain : (backTo cpos (starEach [] X.env)).any (·.1) = false := by rfl) :
    PE X (.Call (.Attribute o "append" apos) [a] [] cpos) (tU X.K W (uApp P f)) :=
  PE.imp (pe_bm PySem.F.plainAttrs_list PySem.F.slot_list_append PySem.F.type_list_append mt_append ho (pd_cons ha pd_nil hs) hbase hfew hline hs hplain) fun σ H Q ⟨F0, H0, F, env, r, s, q, k⟩ => by
  obtain ⟨⟨p, ⟨n1, d1⟩, y⟩, eP, q⟩ := mP_some q
  refine ⟨F0, H0, F, env, p, (n1, d1), y, s, eP, fun v u F1 H1 g1 hv nv => ?_⟩
  have shape : ∀ n ds, y = (n + 1, .lst ds) → ∃ a xs, u = .ref a ∧ H a = some (.lst xs) ∧ xs.length = ds.length := fun n ds e => by
    subst e
    exact lst_at s eP g1.hh hv nv
  have s1 := s.on g1
  obtain ⟨⟨n, ds⟩, eL, q⟩ := mP_some q
  have ey : y = (n + 1, .lst ds) := by
    obtain ⟨_, e1, e2⟩ := lf_ok eL
    cases e2
    exact asLst_some e1
  subst ey
  obtain ⟨a, xs, hu, hHa, hl⟩ := shape n ds rfl
  subst hu
  refine ⟨.inl ⟨rfl, xs, .inl (.inl (g1.hh _ _ hHa))⟩, ?_⟩
  rcases mB_some q with ⟨z, ef, q⟩ | ⟨e, ef, er⟩
  · have q : (if z.1 = n ∧ ds.length < sizeLine then some (.ok (.non, env.set P.i (some (n1, putN p d1 (.lst (ds ++ [z.2])))))) else (none : MU)) = some r := q
    by_cases c : z.1 = n ∧ ds.length < sizeLine
    · rw [if_pos c] at q
      cases q
      refine ⟨F0, H0, F1, env, s1, .inl ⟨[z], by show bd (f env) _ = _; rw [ef]; rfl, fun vs F2 H2 fp g2 w2 nd nw => ?_⟩⟩
      obtain ⟨y, r, f1, f2, hvs, hfp, oy, hr, hf2⟩ := w2
      subst hr hf2
      rw [List.append_nil] at hfp
      subst hfp
      refine ⟨a, xs, y, rfl, hvs, g2.hh _ _ (g1.hh _ _ hHa), by rw [hl]; exact c.2, ?_⟩
      obtain ⟨_, e2, e3⟩ := plGet_ok eP
      refine s.mutP0 (g1.trans g2) e2 e3 fun v' u' sub hv' nv' o' nds hsub up => ?_
      rw [hv] at hv'
      cases hv'
      have eu : u' = .ref a := NavV.det (nv'.on (g1.trans g2).hh) (nv.on g2.hh)
      subst eu
      obtain ⟨a', o2, r2, h1, h2, h3, h4, h5⟩ := o'
      cases h1
      have : o2 = .lst xs := by
        have := g2.hh _ _ (g1.hh _ _ hHa)
        rw [h3] at this
        exact Option.some.inj this
      subst this
      subst h4
      have na : a ∉ fp := fun m => by
        have := nw a m
        rw [g1.hh _ _ hHa] at this
        cases this
      rw [List.nodup_cons] at nds
      obtain ⟨nr, ndr⟩ := nds
      refine k .non F2 _ (g1.trans g2).ff (up _ (.lst (ds ++ [z.2])) (a :: (r2 ++ fp)) ⟨a, _, _, rfl, h2, upd_same, rfl, ?_⟩ ?_ ?_ ?_) rfl
      · exact OwL.snoc (by rw [← c.1]; exact oy.stay fun b m o e => by rw [upd_ne (fun e => na (by rw [← e]; exact m))]; exact e) (OwL.cong (fun _ _ _ _ z w => w.stay fun b m o e => by rw [upd_ne (fun e => nr (by rw [← e]; exact z b m))]; exact e) h5)
      · rw [List.nodup_cons, List.nodup_append]
        refine ⟨fun m => (List.mem_append.mp m).elim nr na, ndr, nd, fun b mb c mc e => ?_⟩
        subst e
        exact (hsub b (List.mem_cons_of_mem _ mb)).2.2 (g1.hh.back (nw b mc))
      · intro b m
        rcases List.mem_cons.mp m with m | m
        · exact .inl (by rw [m]; exact List.mem_cons_self)
        · rcases List.mem_append.mp m with m | m
          · exact .inl (List.mem_cons_of_mem _ m)
          · exact .inr (g1.hh.back (nw b m))
      · intro b o m e
        rw [upd_ne (fun e => m (by rw [e]; exact List.mem_cons_self))]
        exact e
    · rw [if_neg c] at q; cases q
  · subst er
    exact ⟨F0, H0, F1, env, s1, .inr ⟨e, by show bd (f env) _ = _; rw [ef]; rfl, (UOk.er s k).on g1⟩⟩
end
end DP
/-! DP: dicts and lists changed at a place, statements over such expressions. -/
namespace DP
open PySem L2 PySem.Spec PyProof.Rows
section
variable {X : Cx} {W : WX} {K : Fg} {J : List Nat} {F0 H0 F H F1 H1 F2 H2 : Hp} {σ : L2.St} {env : Env}
/-- the one-layered object at a place -/
theorem obj_at (s : SR K F0 H0 F H σ env) {P : Pl} {p : List Nat} {x : Sv} {yd : D} (eP : plGet P env = M.ok (p, x, (1, yd))) {v u : V} (e : Ex H H1) (hv : σ[P.i]? = some (some v)) (nv : NavV H1 p v u) : ∃ a o, u = .ref a ∧ H a = some o ∧ F a = none ∧ OwO (Ow K F H 0) yd o [] := by
  obtain ⟨e1, e2, e3⟩ := plGet_ok eP
  obtain ⟨fr, q1, q2, _, _⟩ := s.ex
  obtain ⟨v0, hv0, ow⟩ := q1 _ _ _ e2
  obtain ⟨u0, sub, nv0, o1, _, _, _⟩ := Ow.nav ow (q2 _) e3
  rw [hv] at hv0
  cases hv0
  have := NavV.det nv (nv0.on e)
  subst this
  obtain ⟨a, o, r, h1, h2, h3, h4, h5⟩ := o1
  refine ⟨a, o, h1, h3, h2, ?_⟩
  cases yd <;> cases o <;> first
    | exact h5.elim
    | (have z := OwL.one h5; exact OwL.of z.2)
    | (have z := OwL.one h5.2; exact ⟨h5.1, OwL.of z.2⟩)
    | (have z := OwL.one h5.2.2; exact ⟨h5.1, h5.2.1, OwL.of z.2⟩)
/-- it is written anew -/
theorem SR.put1 (s : SR K F0 H0 F H σ env) (g : Gr F H F2 H2) {P : Pl} {p : List Nat} {x : Sv} {yd yd' : D} {a : Addr} {o' : HO} (eP : plGet P env = M.ok (p, x, (1, yd))) {v : V} (hv : σ[P.i]? = some (some v)) (nv : NavV H2 p v (.ref a))
    (w : OwO (Ow K F2 (upd H2 a o') 0) yd' o' []) : SR K F0 H0 F2 (upd H2 a o') σ (env.set P.i (some (x.1, putN p x.2 yd'))) := by
  obtain ⟨e1, e2, e3⟩ := plGet_ok eP
  obtain ⟨n1, d1⟩ := x
  refine s.mutP0 g e2 e3 fun v' u' sub hv' nv' o1 nds hsub up => ?_
  rw [hv] at hv'
  cases hv'
  have eu : u' = .ref a := NavV.det (nv'.on g.hh) nv
  subst eu
  obtain ⟨a', o2, r2, h1, h2, h3, h4, h5⟩ := o1
  cases h1
  subst h4
  refine up _ yd' [a] ⟨a, _, [], rfl, h2, upd_same, rfl, w⟩ (List.nodup_cons.mpr ⟨by simp, List.nodup_nil⟩) (fun b m => .inl ?_) fun b o m e => ?_
  · rw [List.mem_singleton] at m
    rw [m]; exact List.mem_cons_self
  · rw [upd_ne (fun e => m (by rw [e]; exact List.mem_cons_self))]
    exact e
/-! ### d.pop(k), k there -/
def rPop1 : V → List V → Hp → VK → Prop := fun x xs H Q => (∃ (a : Addr) (kvs : List (L2.Key × V)) (k : L2.Key) (v : V), x = .ref a ∧ xs = [kV k] ∧ H a = some (.dK kvs) ∧ valV kvs k = some v ∧ Q v (upd H a (.dK (dropK kvs k)))) ∨
  ∃ (a : Addr) (kvs : List (List L2.Key × V)) (k : List L2.Key) (b : Addr) (v : V), x = .ref a ∧ xs = [.ref b] ∧ H a = some (.dT kvs) ∧ H b = some (.tup (k.map kV)) ∧ valV kvs k = some v ∧ Q v (upd H a (.dT (dropK kvs k)))
theorem mt_pop1 (hu : X.A.units + 1 < cLine) : MtR X "dict.pop" rPop1 := by
  intro pins s σ H x xs v us Q I rx rxs h
  rcases h with ⟨a, kvs, k, v0, rfl, rfl, ha, hv, q⟩ | ⟨a, kvs, k, b, v0, rfl, rfl, ha, hb, hv, q⟩
  · cases rx
    obtain ⟨u, rfl, ru⟩ := rxs.one
    exact d_pop (more := []) I ha ru hv (.inl rfl) fun w' s' I' rw' => ⟨v0, _, I', rw', q⟩
  · cases rx
    obtain ⟨u, rfl, ru⟩ := rxs.one
    cases ru
    obtain ⟨z, hd, xs', rel, dd⟩ := dt_of I.hok ha
    have hz : xs'.length ≤ sizeLine := by rw [← Paired.length rel]; exact z
    refine call_meetsIn PySem.F.slot_dict_pop dd.typeIs PySem.F.entry_dict_pop (PySem.F.args_dict_pop_2 _ _) (meetsH_dict_pop (tupleKind (mixKind X.prog X.w)) a b hd [] (.inl rfl))
      ⟨tupleKind_room_in1 hu, k, xs', key_of I.hok hb, dd, hz, fun p hp h' dd' hs => ?_, fun hn => ?_⟩
    · have r := rel.val k
      rw [hp] at r
      obtain ⟨v1, ev, rv⟩ : ∃ v0, valV kvs k = some v0 ∧ RelV v0 p.2 := by
        cases ev : valV kvs k with
        | none =>
          rw [ev] at r
          exact (show False from r).elim
        | some v0 =>
          rw [ev] at r
          exact ⟨v0, rfl, r⟩
      rw [hv] at ev
      cases ev
      obtain ⟨o, es, ep, hq, h2, h3, h4, _, h5⟩ := dd'
      have I2 : ∀ tk, Inv X pins σ (upd H a (.dT (dropK kvs k))) { s with heap := h', toks := tk } := fun tk =>
        d_write I (by rw [ha]; exact True.intro) hs ⟨o, hq⟩ ⟨Nat.le_trans (dropK_le kvs k) z, hd, _, (DX.KT_drop k rel).keeps (fun c ys ec => (by rw [upd_ne (ne_of ec ha (fun z => nomatch z))]; exact ec)), o, es, ep, hq, h2, h3, h4, h5⟩
      exact ⟨v0, _, I2 _, rv, q⟩
    · have r := rel.val k
      rw [hn, hv] at r
      exact (show False from r).elim
/-- what is left and what is told -/
def popD (yd : D) (j : D) : Option (D × D) := match yd with
  | .dK ks ds => (keyD j).bind fun k => (getP (ks.zip ds) k).map fun d => (d, mkK (delP (ks.zip ds) k))
  | .dT ks ds => (keyT j).bind fun k => (getP (ks.zip ds) k).map fun d => (d, mkT (delP (ks.zip ds) k))
  | _ => none
def one1 (y : Sv) : Option D := match y with | (1, d) => some d | _ => none
theorem one1_some {y : Sv} {d : D} (h : one1 y = some d) : y = (1, d) := by
  obtain ⟨n, e⟩ := y
  unfold one1 at h
  split at h
  · rename_i d' e'
    cases e'
    cases h
    rfl
  · cases h
def uPop (P : Pl) (f : Env → M Sv) (env : Env) : MU := mP (plGet P env) fun r => mP (lf (one1 r.2.2)) fun yd => mB (f env) env fun j => mP (lf (popD yd j.2)) fun q => some (.ok (q.1, env.set P.i (some (r.2.1.1, putN r.1 r.2.1.2 q.2))))
def dct (d : D) : Bool := match d with | .dK _ _ => true | .dT _ _ => true | _ => false
theorem PR.ow {κ : Type} [DecidableEq κ] {kvs : List (κ × D)} {ws : List (κ × V)} (h : PR K F kvs ws) : ws.map (·.1) = kvs.map (·.1) ∧ OwL (Ow K F H 0) (kvs.map (·.2)) (ws.map (·.2)) [] := ⟨h.1, OwL.of h.2⟩
/-- statements over such expressions -/
def gU (u : Env → MU) : Gs := fun env => match u env with
  | none => none
  | some (.error x) => some (.er x.1 x.2)
  | some (.ok x) => some (.nx x.2)
theorem gU_some {u : Env → MU} {env : Env} {r : Fl} (h : gU u env = some r) : (∃ x, u env = some (.ok x) ∧ r = .nx x.2) ∨ ∃ x, u env = some (.error x) ∧ r = .er x.1 x.2 := by
  unfold gU at h
  rcases q : u env with _ | x | x
  · rw [q] at h; cases h
  · rw [q] at h; exact .inr ⟨x, rfl, (Option.some.inj h).symm⟩
  · rw [q] at h; exact .inl ⟨x, rfl, (Option.some.inj h).symm⟩
theorem su_drop {a : Expr} {pos : Pos} {u : Env → MU} (he : PE X a (tU X.K W u)) (hs : swapsWith a none pos.line X.env = pure false := by rfl) : PS X (.Expr a pos) (tS X.K W J (gU u)) := PS.imp (ps_expr he hs) fun D σ H ⟨F0, H0, F, env, r, s, e, k⟩ => by
  rcases gU_some e with ⟨x, e1, e2⟩ | ⟨x, e1, e2⟩
  · subst e2
    exact ⟨F0, H0, F, env, _, s, e1, fun v F' H' x' s' _ => k σ F' H' x' s' KpJ.rfl'⟩
  · subst e2
    exact ⟨F0, H0, F, env, _, s, e1, fun cls dd F' H' x' s' r' => k cls dd σ F' H' x' s' KpJ.rfl' r'⟩
def gSetU (i : Nat) (u : Env → MU) : Gs := fun env => match u env with
  | none => none
  | some (.error x) => some (.er x.1 x.2)
  | some (.ok x) => some (.nx (x.2.set i (some (0, x.1))))
theorem su_set (i : Nat) {a : Expr} {x : Str} {pos pos' : Pos} {u : Env → MU} (hN : X.N.Nodup) (hi : X.N[i]? = some x) (hx : Loc X.env.scope x) (he : PE X a (tU X.K W u)) (hs : swapsWith a (some (.Name x pos')) pos.line X.env = pure false := by rfl) (hf : X.fn x = true ∨ X.env.scope.names.lookup x = some .local := by first | exact .inl rfl | exact .inr rfl | assumption) (hJ : i ∉ J := by decide) :
    PS X (.Assign [.Name x pos'] a pos) (tS X.K W J (gSetU i u)) := PS.imp (ps_set hN hi hx he hs hf) fun D σ H ⟨F0, H0, F, env, r, s, e, k⟩ => by
  unfold gSetU at e
  rcases q : u env with _ | x | x
  · rw [q] at e; cases e
  · rw [q] at e
    cases e
    exact ⟨F0, H0, F, env, _, s, q, fun cls dd F' H' x' s' r' => k cls dd σ F' H' x' s' KpJ.rfl' r'⟩
  · rw [q] at e
    cases e
    exact ⟨F0, H0, F, env, _, s, q, fun v F' H' x' s' r' => k _ F' H' x' (s'.set (Gr.refl s'.fh) ⟨rfl, r'⟩ List.nodup_nil fun _ m => nomatch m) (KpJ.set hJ)⟩
def gRetU (u : Env → MU) : Gs := fun env => match u env with
  | none => none
  | some (.error x) => some (.er x.1 x.2)
  | some (.ok x) => some (.rv x.1 x.2)
theorem su_ret {a : Expr} {pos : Pos} {u : Env → MU} (he : PE X a (tU X.K W u)) : PS X (.Return (some a) pos) (tS X.K W J (gRetU u)) := PS.imp (ps_ret he) fun D σ H ⟨F0, H0, F, env, r, s, e, k⟩ => by
  unfold gRetU at e
  rcases q : u env with _ | x | x
  · rw [q] at e; cases e
  · rw [q] at e
    cases e
    exact ⟨F0, H0, F, env, _, s, q, fun cls dd F' H' x' s' r' => k cls dd σ F' H' x' s' KpJ.rfl' r'⟩
  · rw [q] at e
    cases e
    exact ⟨F0, H0, F, env, _, s, q, fun v F' H' x' s' r' => k v σ F' H' x' s' KpJ.rfl' r'⟩
end
end DP
/-! DP: pop, items stored, get, index. -/
namespace DP
open PySem L2 PySem.Spec PyProof.Rows
section
variable {X : Cx} {W : WX} {K : Fg} {J : List Nat} {F0 H0 F H F1 H1 F2 H2 : Hp} {σ : L2.St} {env : Env}
theorem PR.mono {κ : Type} (e : Ex F F1) {kvs : List (κ × D)} {ws : List (κ × V)} (h : PR K F kvs ws) : PR K F1 kvs ws := ⟨h.1, RpL.mono e _ _ h.2⟩
theorem OwO.dK {ks : List L2.Key} {ds : List D} {o : HO} (w : OwO (Ow K F H 0) (.dK ks ds) o []) : ∃ ws, o = .dK ws ∧ PR K F (ks.zip ds) ws := by
  cases o with
  | dK ws => exact ⟨ws, rfl, PR.zip w.1 (OwL.one w.2).2⟩
  | _ => exact w.elim
theorem OwO.dT {ks : List (List L2.Key)} {ds : List D} {o : HO} (w : OwO (Ow K F H 0) (.dT ks ds) o []) : ∃ ws, o = .dT ws ∧ PR K F (ks.zip ds) ws := by
  cases o with
  | dT ws => exact ⟨ws, rfl, PR.zip w.1 (OwL.one w.2).2⟩
  | _ => exact w.elim
theorem OwO.lst0 {ds : List D} {o : HO} (w : OwO (Ow K F H 0) (.lst ds) o []) : ∃ vs, o = .lst vs ∧ RpL K F ds vs := by
  cases o with
  | lst vs => exact ⟨vs, rfl, (OwL.one w).2⟩
  | _ => exact w.elim
def asDct (y : Sv) : Option D := (one1 y).bind fun d => if dct d then some d else none
theorem asDct_some {y : Sv} {d : D} (h : asDct y = some d) : y = (1, d) ∧ dct d = true := by
  obtain ⟨d', e, q⟩ := Option.bind_eq_some_iff.mp h
  by_cases c : dct d' = true
  · rw [if_pos c] at q; cases q; exact ⟨one1_some e, c⟩
  · rw [if_neg c] at q; cases q
def uPopD (P : Pl) (f : Env → M Sv) (env : Env) : MU := mP (plGet P env) fun r => mP (lf (asDct r.2.2)) fun yd => mB (f env) env fun j => mP (lf (popD yd j.2)) fun q => some (.ok (q.1, env.set P.i (some (r.2.1.1, putN r.1 r.2.1.2 q.2))))
theorem mP_lf {α : Type} {m : Option α} {k : α → MU} {r : RU} (h : mP (lf m) k = some r) : ∃ a, m = some a ∧ k a = some r := by
  obtain ⟨a, e, q⟩ := mP_some h
  obtain ⟨b, e1, e2⟩ := lf_ok e
  cases e2
  exact ⟨_, e1, q⟩
theorem pu_pop {P : Pl} {o a : Expr} {f : Env → M Sv} {apos cpos : Pos} (hu : X.A.units + 1 < cLine) (ho : PE X o (tPl X.K P)) (ha : PE X a (tW X.K W f))
    (hbase : attributeBase o "pop" X.env (eval o X.env) = eval o X.env := by rfl)
    (hfew : ((backTo cpos (starEach [a] X.env)).all (fun x => !x.1) && (backToKw cpos (keywordEach [] X.env)).all (fun x => x.1.isSome)
      && decide ([a].length + ([] : List Keyword).length + (if ([] : List Keyword).isEmpty then 0 else 1) < 30)) = true := by rfl)
    (hline : (apos.endLine == cpos.line) = true := by rfl) (hs : starEach [a] X.env = (false, eval a X.env) :: starEach [] X.env := by rfl) (hplain : (backTo cpos (starEach [] X.env)).any (·.1) = false := by rfl) :
    PE X (.Call (.Attribute o "pop" apos) [a] [] cpos) (tU X.K W (uPopD P f)) :=
  PE.imp (pe_bm PySem.F.plainAttrs_dict PySem.F.slot_dict_pop PySem.F.type_dict_pop (mt_pop1 hu) ho (pd_consw ha pd_nilw hs) hbase hfew hline hs hplain) fun σ H Q ⟨F0, H0, F, env, r, s, q, k⟩ => by
  obtain ⟨⟨p, ⟨n1, d1⟩, y⟩, eP, q⟩ := mP_some q
  obtain ⟨yd, eD, q⟩ := mP_lf q
  obtain ⟨ey, hd⟩ := asDct_some eD
  have ey : y = (1, yd) := ey
  subst ey
  refine ⟨F0, H0, F, env, p, (n1, d1), (1, yd), s, eP, fun v u F1 H1 g1 hv nv => ?_⟩
  obtain ⟨a, o, hu', hHa, hFa, w⟩ := obj_at s eP g1.hh hv nv
  subst hu'
  have s1 := s.on g1
  refine ⟨.inr (.inr (.inl ⟨rfl, ?_⟩)), ?_⟩
  · cases yd <;> first | cases hd | skip
    · obtain ⟨ws, rfl, _⟩ := w.dK; exact .inl ⟨ws, g1.hh _ _ hHa⟩
    · obtain ⟨ws, rfl, _⟩ := w.dT; exact .inr ⟨ws, g1.hh _ _ hHa⟩
  rcases mB_some q with ⟨z, ef, q⟩ | ⟨e, ef, er⟩
  · refine ⟨F0, H0, F1, env, s1, .inl ⟨[z], by show bd (f env) _ = _; rw [ef]; rfl, fun vs F2 H2 fp g2 w2 => ?_⟩⟩
    obtain ⟨y, r', f1, f2, hvs, hfp, oy, hr, hf2⟩ := w2
    subst hr
    obtain ⟨⟨td, yd'⟩, eQ, q⟩ := mP_lf q
    cases q
    have hH2 := g2.hh _ _ (g1.hh _ _ hHa)
    cases yd with
    | dK ks ds =>
      obtain ⟨ws, rfl, pr⟩ := w.dK
      obtain ⟨kk, e1, e2⟩ := Option.bind_eq_some_iff.mp eQ
      cases e3 : getP (ks.zip ds) kk with
      | none => rw [e3] at e2; cases e2
      | some d =>
        rw [e3] at e2; cases e2
        obtain ⟨v1, ev, rv⟩ := (pr.get kk).1 _ e3
        have ek := keyD_v e1 oy
        refine .inl ⟨a, ws, kk, v1, rfl, by rw [hvs, ek], hH2, ev, ?_⟩
        refine k v1 F2 _ (g1.trans g2).ff (s.put1 (g1.trans g2) eP hv (nv.on g2.hh) ?_) (Rp.mono (g1.trans g2).ff _ _ rv)
        exact PR.ow (pr.del kk |>.mono (g1.trans g2).ff)
    | dT ks ds =>
      obtain ⟨ws, rfl, pr⟩ := w.dT
      obtain ⟨kk, e1, e2⟩ := Option.bind_eq_some_iff.mp eQ
      cases e3 : getP (ks.zip ds) kk with
      | none => rw [e3] at e2; cases e2
      | some d =>
        rw [e3] at e2; cases e2
        obtain ⟨v1, ev, rv⟩ := (pr.get kk).1 _ e3
        obtain ⟨b, eb, hb⟩ := keyT_v (s1.on g2).fh e1 oy
        refine .inr ⟨a, ws, kk, b, v1, rfl, by rw [hvs, eb], hH2, hb, ev, ?_⟩
        refine k v1 F2 _ (g1.trans g2).ff (s.put1 (g1.trans g2) eP hv (nv.on g2.hh) ?_) (Rp.mono (g1.trans g2).ff _ _ rv)
        exact PR.ow (pr.del kk |>.mono (g1.trans g2).ff)
    | _ => cases hd
  · subst er
    exact ⟨F0, H0, F1, env, s1, .inr ⟨e, by show bd (f env) _ = _; rw [ef]; rfl, (UOk.er s k).on g1⟩⟩
/-! ### an item stored -/
def rSetA : TSet := fun o i v H Q => rSetL o i v H Q ∨ rSetD o i v H Q
theorem set_all (hu : X.A.units + 1 < cLine) : PSet X rSetA := by
  intro pins s σ H o i v ov iv u Q I ro ri rv h
  rcases h with h | h
  · exact set_list pins s σ H o i v ov iv u Q I ro ri rv h
  · exact set_dict hu pins s σ H o i v ov iv u Q I ro ri rv h
def stItem (yd j z : D) : Option D := match yd with
  | .lst ds => match j with | .int i => (ixN ds.length i).map fun m => .lst (ds.set m z) | _ => none
  | .dK ks ds => if ds.length < sizeLine then (keyD j).map fun k => mkK (putP (ks.zip ds) k z) else none
  | .dT ks ds => if ds.length < sizeLine then (keyT j).map fun k => mkT (putP (ks.zip ds) k z) else none
  | _ => none
theorem zl {κ : Type} [DecidableEq κ] {ks : List κ} {ds : List D} {ws : List (κ × V)} {n : Nat} (pr : PR K F (ks.zip ds) ws) (c : ds.length < n) : ws.length < n := by
  have h1 := pr.len
  rw [List.length_zip] at h1
  omega
def uItem (P : Pl) (f k : Env → M Sv) (env : Env) : MU := mB (f env) env fun z => mP (lf (if z.1 = 0 then some () else none)) fun _ => mP (plGet P env) fun r => mP (lf (one1 r.2.2)) fun yd => mB (k env) env fun j => mP (lf (stItem yd j.2 z.2)) fun d' => some (.ok (.non, env.set P.i (some (r.2.1.1, putN r.1 r.2.1.2 d'))))
theorem sd_item {P : Pl} {o i a : Expr} {f g : Env → M Sv} {pos pos' : Pos} (hu : X.A.units + 1 < cLine) (he : PE X a (tD X.K W f)) (ho : PE X o (tPl X.K P)) (hi : PE X i (tW X.K W g))
    (ha : ∀ v, assign (.Subscript o i pos') X.env v = (do
      let ov ← holding [v] (eval o X.env)
      let iv ← holding [v, ov] (eval i X.env)
      standAt pos'
      holding [v, ov, iv] (setItem ov iv v)
      release [v, ov, iv] []) := by intro _; rfl)
    (hs : swapsWithSole [.Subscript o i pos'] a pos.line X.env = pure false := by rfl) (hw : swappedStores [.Subscript o i pos'] a X.env = pure none := by rfl)
    (h1 : (assignEach [.Subscript o i pos'] X.env).map (·.2) = [assign (.Subscript o i pos') X.env] := by rfl) :
    PS X (.Assign [.Subscript o i pos'] a pos) (tS X.K W J (gU (uItem P f g))) := PS.imp (ps_asg he (pg_sub ho hi (set_all hu) ha) hs hw h1) fun Dn σ H ⟨F0, H0, F, env, r, s, e, k⟩ => by
  have k2 : ∃ r2, uItem P f g env = some r2 ∧ UOk X.K F0 H0 F W σ (fun _ H' => Dn.nx σ H') r2 := by
    rcases gU_some e with ⟨x, e1, e2⟩ | ⟨x, e1, e2⟩
    · subst e2
      exact ⟨_, e1, fun v F' H' x' s' _ => k σ F' H' x' s' KpJ.rfl'⟩
    · subst e2
      exact ⟨_, e1, fun cls dd F' H' x' s' r' => k cls dd σ F' H' x' s' KpJ.rfl' r'⟩
  obtain ⟨r2, q, k⟩ := k2
  rcases mB_some q with ⟨⟨nz, z⟩, ez, q⟩ | ⟨e, ez, er⟩
  · obtain ⟨_, c, q⟩ := mP_lf q
    have c : nz = 0 := by
      by_cases c' : nz = 0
      · exact c'
      · rw [if_neg c'] at c; cases c
    subst c
    obtain ⟨⟨p, ⟨n1, d1⟩, y⟩, eP, q⟩ := mP_some q
    obtain ⟨yd, eD, q⟩ := mP_lf q
    have ey := one1_some eD
    have ey : y = (1, yd) := ey
    subst ey
    refine tD.go s ez fun zv F1 H1 fp g1 o1 nd nw => ?_
    have rz := o1.2
    have s1 := s.on g1
    refine ⟨F0, H0, F1, env, p, (n1, d1), (1, yd), s1, eP, fun v u F2 H2 g2 hv nv => ?_⟩
    obtain ⟨a, o, hu', hHa, hFa, w⟩ := obj_at s eP (g1.trans g2).hh hv nv
    subst hu'
    have s2 := s1.on g2
    rcases mB_some q with ⟨j, ej, q⟩ | ⟨e, ej, er⟩
    · refine tW.go s2 ej fun jv F3 H3 fq g3 oj => ?_
      obtain ⟨d', eS, q⟩ := mP_lf q
      cases q
      have g13 := (g1.trans g2).trans g3
      have hH3 := g13.hh _ _ hHa
      have rz3 := Rp.mono (g2.trans g3).ff _ _ rz
      have fin : ∀ {o' : HO}, OwO (Ow X.K F3 (upd H3 a o') 0) d' o' [] → Dn.nx σ (upd H3 a o') := fun {o'} w' =>
        k .non F3 _ g13.ff (s.put1 g13 eP hv (nv.on g3.hh) w') rfl
      cases yd with
      | lst ds =>
        obtain ⟨vs, rfl, rl⟩ := w.lst0
        obtain ⟨nj, dj⟩ := j
        cases dj with
        | int i =>
          have eS : (ixN ds.length i).map (fun m => D.lst (ds.set m z)) = some d' := eS
          cases em : ixN ds.length i with
          | none => rw [em] at eS; cases eS
          | some m =>
            rw [em] at eS; cases eS
            exact .inl ⟨a, vs, i, m, rfl, oj.int, hH3, by rw [← rl.len]; exact em, fin (OwL.of ((RpL.mono g13.ff _ _ rl).set m rz3))⟩
        | _ => cases eS
      | dK ks ds =>
        obtain ⟨ws, rfl, pr⟩ := w.dK
        have eS : (if ds.length < sizeLine then (keyD j.2).map fun k => mkK (putP (ks.zip ds) k z) else none) = some d' := eS
        by_cases c : ds.length < sizeLine
        · rw [if_pos c] at eS
          cases ek : keyD j.2 with
          | none => rw [ek] at eS; cases eS
          | some kk =>
            rw [ek] at eS; cases eS
            have e1 := keyD_v ek oj
            refine .inr ⟨a, _, rfl, by rw [e1]; exact DPut.k hH3 (zl pr c), fin (o' := .dK (putK ws kk zv)) (PR.ow ((pr.mono g13.ff).put kk rz3))⟩
        · rw [if_neg c] at eS; cases eS
      | dT ks ds =>
        obtain ⟨ws, rfl, pr⟩ := w.dT
        have eS : (if ds.length < sizeLine then (keyT j.2).map fun k => mkT (putP (ks.zip ds) k z) else none) = some d' := eS
        by_cases c : ds.length < sizeLine
        · rw [if_pos c] at eS
          cases ek : keyT j.2 with
          | none => rw [ek] at eS; cases eS
          | some kk =>
            rw [ek] at eS; cases eS
            obtain ⟨b, eb, hb⟩ := keyT_v (s2.on g3).fh ek oj
            refine .inr ⟨a, _, rfl, by rw [eb]; exact DPut.t hH3 hb (zl pr c), fin (o' := .dT (putK ws kk zv)) (PR.ow ((pr.mono g13.ff).put kk rz3))⟩
        · rw [if_neg c] at eS; cases eS
      | _ => cases eS
    · subst er
      exact tW.ex s2 ej ((UOk.er s k).on (g1.trans g2))
  · subst er
    exact tD.ex s ez (UOk.er s k)
end
end DP
/-! DP: get, index, fields, methods, makers. -/
namespace DP
open PySem L2 PySem.Spec PyProof.Rows
section
variable {X : Cx} {W : WX} {K : Fg} {J : List Nat} {F0 H0 F H F1 H1 F2 H2 : Hp} {σ : L2.St} {env : Env} {f g : Env → M Sv}
/-! ### d.get(k) -/
def isDct (p : Sv) : Bool := match p with | (n, .dK _ _) => decide (n ≤ 1) | (n, .dT _ _) => decide (n ≤ 1) | _ => false
def oGet (p q : Sv) : Option Sv := (dGet p q.2).map fun o => ((0, o.getD .non) : Sv)
def fGet (f g : Env → M Sv) (env : Env) : M Sv := bd (f env) fun p => bd (lf (if isDct p = true then some () else none)) fun _ => bd (g env) fun q => lf (oGet p q)
theorem isDct_v {p : Sv} {v : V} {fp : List Addr} (e : Ex F H) (w : Ow K F H p.1 p.2 v fp) (h : isDct p = true) : ∃ a, v = .ref a ∧ IsD H a := by
  obtain ⟨n, d⟩ := p
  have one : ∀ {n : Nat}, n ≤ 1 → n = 0 ∨ n = 1 := fun h => by omega
  cases d with
  | dK ks ds =>
    rcases one (of_decide_eq_true h) with e1 | e1
    · have e1 : n = 0 := e1
      subst e1
      obtain ⟨a, ws, h1, h2, _⟩ := w.2
      exact ⟨a, h1, .inl ⟨ws, .inl (e _ _ h2)⟩⟩
    · have e1 : n = 1 := e1
      subst e1
      obtain ⟨a, o, r, h1, h2, h3, h4, h5⟩ := w
      cases o with
      | dK ws => exact ⟨a, h1, .inl ⟨ws, .inl h3⟩⟩
      | _ => exact h5.elim
  | dT ks ds =>
    rcases one (of_decide_eq_true h) with e1 | e1
    · have e1 : n = 0 := e1
      subst e1
      obtain ⟨a, ws, h1, h2, _⟩ := w.2
      exact ⟨a, h1, .inr ⟨ws, .inl (e _ _ h2)⟩⟩
    · have e1 : n = 1 := e1
      subst e1
      obtain ⟨a, o, r, h1, h2, h3, h4, h5⟩ := w
      cases o with
      | dT ws => exact ⟨a, h1, .inr ⟨ws, .inl h3⟩⟩
      | _ => exact h5.elim
  | _ => cases h
theorem pd_get {o a : Expr} {apos cpos : Pos} (hu : X.A.units + 1 < cLine) (ho : PE X o (tW K W f)) (ha : PE X a (tW K W g)) (m : M1 X o "get" apos a cpos := by exact ⟨rfl, rfl, rfl, rfl⟩) : PE X (.Call (.Attribute o "get" apos) [a] [] cpos) (tD K W (fGet f g)) :=
  PE.imp (pe_dget1 hu ho ha m) fun σ H Q ⟨F0, H0, F, env, s, o⟩ => by
  have o : Out (fGet f g env) (EvOk K F H Q) (ExOk K F H W σ) := o
  refine tW.out s (Out.imp o.bd (fun p op => ?_) fun _ k => k)
  obtain ⟨_, ec, op⟩ := Out.lf op.bd
  have c : isDct p = true := by
    by_cases c : isDct p = true
    · exact c
    · rw [if_neg c] at ec; cases ec
  intro v F1 H1 fp g1 w1
  obtain ⟨a, rfl, d⟩ := isDct_v g1.fh w1 c
  refine ⟨a, rfl, d, ?_⟩
  refine tW.out (s.on g1) (Out.imp op.bd (fun q oq => ?_) fun _ k => k.on g1)
  obtain ⟨z, ez, kz⟩ := oq.lf
  intro u F2 H2 fq g2 w2
  unfold oGet at ez
  cases q1 : dGet p q.2 with
  | none => rw [q1] at ez; cases ez
  | some od =>
    rw [q1] at ez; cases ez
    obtain ⟨a', e', r'⟩ := dGet_v g2.fh (w1.mono g2) w2 q1
    cases e'
    cases od with
    | none => exact ⟨none, r', kz.z (g1.trans g2) rfl⟩
    | some d =>
      obtain ⟨x, r1, r2⟩ := r'
      exact ⟨some x, r1, kz.z (g1.trans g2) r2⟩
/-! ### xs.index(x) of flat things -/
def oIndex : Sv → Sv → Option Sv := fun p q => match p with
  | (n, .lst ds) => if n ≤ 1 ∧ flat q.2 = true ∧ ds.all flat = true ∧ ds.findIdx (eqF · q.2) < ds.length then some (0, .int (ds.findIdx (eqF · q.2) : Nat)) else none
  | _ => none
theorem vIndex : VRM K "list" (rIndex K) (m1 oIndex) := by
  refine vM1 fun F H v u p y fp fq z Q e w1 w2 h k => ?_
  obtain ⟨n, d⟩ := p
  cases d <;> first | (cases h; done) | skip
  rename_i ds
  have h' : (if n ≤ 1 ∧ flat y.2 = true ∧ ds.all flat = true ∧ ds.findIdx (eqF · y.2) < ds.length then some ((0, .int (ds.findIdx (eqF · y.2) : Nat)) : Sv) else none) = some z := h
  by_cases c : n ≤ 1 ∧ flat y.2 = true ∧ ds.all flat = true ∧ ds.findIdx (eqF · y.2) < ds.length
  · rw [if_pos c] at h'; cases h'
    obtain ⟨c1, c2, c3, c4⟩ := c
    have sq : seqOf (n, .lst ds) = some ds := if_pos c1
    obtain ⟨a, vs, rfl, h2, h3⟩ := w1.seq e sq
    have ev := h3.fv c3
    have ex := w2.fv c2
    subst ev ex
    have h2' : SqL K H a (ds.map fv) := by
      rcases h2 with h2 | h2
      · exact h2
      · cases n with
        | zero =>
          obtain ⟨a', vs', e1, e2, e3⟩ := w1.2
          cases e1
          rw [e3.fv c3] at e2
          exact .inl (.inl (e _ _ e2))
        | succ n =>
          obtain ⟨a', o, r, e1, e2, e3, e4, e5⟩ := w1
          cases e1
          cases o with
          | lst vs' =>
            have : n = 0 := by omega
            subst this
            rw [(OwL.one e5).2.fv c3] at e3
            exact .inl (.inl e3)
          | _ => exact e5.elim
    refine ⟨a, _, _, ds.findIdx (eqF · y.2), fv (ds[ds.findIdx (eqF · y.2)]'c4), rfl, rfl, h2', flatV_fv c2, flatV_all c3, ?_, ?_, ?_, k.fl e rfl⟩
    · rw [List.getElem?_map, List.getElem?_eq_getElem c4]; rfl
    · exact List.findIdx_getElem (w := c4)
    · intro m z' hm hz
      rw [List.getElem?_map] at hz
      cases q : ds[m]? with
      | none => rw [q] at hz; cases hz
      | some d =>
        rw [q] at hz; cases hz
        have hl := (List.getElem?_eq_some_iff.mp q).1
        have := List.not_of_lt_findIdx hm
        rw [(List.getElem?_eq_some_iff.mp q).2] at this
        simpa [eqF] using this
  · rw [if_neg c] at h'; cases h'
/-! ### a field -/
def oFld (C : Addr) (x : Str) (p : Sv) : Option Sv := match p with
  | (n, .ins C' fs ds) => if C' = C ∧ fs.length = ds.length then ((fs.zip ds).lookup x).map fun d => ((n - 1, d) : Sv) else none
  | _ => none
def fFld (C : Addr) (x : Str) (f : Env → M Sv) (env : Env) : M Sv := bd (f env) fun p => lf (oFld C x p)
theorem lookup_z {R : D → V → Prop} {x : Str} {d : D} : ∀ {fs : List Str} {ds : List D} {ws : List (Str × V)}, ws.map (·.1) = fs → (∀ (k : Nat) (d : D), ds[k]? = some d → ∃ v : V, (ws.map (·.2))[k]? = some v ∧ R d v) → (fs.zip ds).lookup x = some d → ∃ v, ws.lookup x = some v ∧ R d v
  | [], ds, ws, _, _, h => by cases h
  | f :: fs, [], ws, _, _, h => by cases h
  | f :: fs, d0 :: ds, [], e, _, _ => by cases e
  | f :: fs, d0 :: ds, w :: ws, e, hr, h => by
    obtain ⟨wa, wb⟩ := w
    rw [List.map_cons, List.cons.injEq] at e
    obtain ⟨e1, e2⟩ := e
    have e1 : wa = f := e1
    subst e1
    rw [List.zip_cons_cons, List.lookup_cons] at h
    rw [List.lookup_cons]
    cases c : x == wa with
    | true =>
      rw [c] at h
      cases h
      obtain ⟨v, q1, q2⟩ := hr 0 d rfl
      cases q1
      exact ⟨wb, rfl, q2⟩
    | false =>
      rw [c] at h
      exact lookup_z e2 (fun k d hk => hr (k + 1) d hk) h
theorem OwL.get {R : D → V → List Addr → Prop} {ds : List D} {vs : List V} {r : List Addr} {k : Nat} {d : D} (h : OwL R ds vs r) (e : ds[k]? = some d) : ∃ v r2, vs[k]? = some v ∧ R d v r2 := by
  obtain ⟨u, r1, r2, r3, e1, _, e3, _⟩ := OwL.at h e
  exact ⟨u, r2, e1, e3⟩
theorem pw_fld {C : Addr} {e : Expr} {x : Str} {pos : Pos} (c : Cls X.K C) (n : NoAttr X.K C x) (he : PE X e (tW X.K W f)) (hb : attributeBase e x X.env (eval e X.env) = eval e X.env := by rfl) : PE X (.Attribute e x pos) (tW X.K W (fFld C x f)) :=
  PE.imp (pe_fld he hb) fun σ H Q ⟨F0, H0, F, env, s, o⟩ => by
  have o : Out (fFld C x f env) (EvWk X.K F H Q) (ExOk X.K F H W σ) := o
  refine tW.out s (Out.imp o.bd (fun p op => ?_) fun _ k => k)
  obtain ⟨z, ez, kz⟩ := op.lf
  intro v F1 H1 fp g1 w1
  obtain ⟨m, d⟩ := p
  cases d <;> first | (cases ez; done) | skip
  rename_i C' fs ds
  have ez2 : (if C' = C ∧ fs.length = ds.length then ((fs.zip ds).lookup x).map fun d => ((m - 1, d) : Sv) else none) = some z := ez
  by_cases cc : C' = C ∧ fs.length = ds.length
  · rw [if_pos cc] at ez2
    obtain ⟨rfl, cl⟩ := cc
    cases el : (fs.zip ds).lookup x with
    | none => rw [el] at ez2; cases ez2
    | some d =>
      rw [el] at ez2; cases ez2
      cases m with
      | zero =>
        obtain ⟨a, dx, ws, h1, h2, h3, h4⟩ := w1.2
        obtain ⟨u, q1, q2⟩ := lookup_z (R := Rp X.K F1) h3 (fun k d hk => h4.get hk) el
        exact ⟨a, C', dx, ws, u, h1, g1.fh _ _ h2, c, n, q1, kz u F1 H1 [] g1 ⟨rfl, q2⟩⟩
      | succ m =>
        obtain ⟨a, o, r, h1, h2, h3, h4, h5⟩ := w1
        cases o with
        | ins C2 dx ws =>
          obtain ⟨h6, h7, h8⟩ := h5
          subst h6
          obtain ⟨u, q1, q2⟩ := lookup_z (R := fun d u => ∃ r2, Ow X.K F1 H1 m d u r2) h7 (fun k d hk => by obtain ⟨u, r2, z1, z2⟩ := OwL.get h8 hk; exact ⟨u, z1, r2, z2⟩) el
          obtain ⟨r2, q2⟩ := q2
          exact ⟨a, C2, dx, ws, u, h1, h3, c, n, q1, kz u F1 H1 r2 g1 q2⟩
        | _ => exact h5.elim
  · rw [if_neg cc] at ez2; cases ez2
end
end DP
/-! DP: methods that read, makers, methods that change their object. -/
namespace DP
open PySem L2 PySem.Spec PyProof.Rows
/-! ### method calls, what they let out told by the slots -/
section
variable {X : Cx} {CX : CXT} {k : Nat} {f C : Addr} {fd : FuncData} {ps : List Str} {sp : Sp} {E : L2.St → XK} {m : Str} {p pos apos : Pos} {e o : Expr} {es : List Expr} {ta : TE} {t : TA}
def tMethW (C : Addr) (m : Str) (sp : Sp) (E : L2.St → XK) (ta : TE) (t : TA) : TE := fun σ H Q => ta σ H fun x H1 => ∃ a dx fs, x = .ref a ∧ H1 a = some (.ins C dx fs) ∧ fs.lookup m = none ∧ t σ H1 fun vs H2 => sp (x :: vs) H2 Q (E σ)
theorem pe_methW {pl : Sem Bool} (he : PE X o ta) (c : Cls X.K C) (hm : Meth X.K C m f) (F : FnOk X.prog X.w X.K X.mg X.base CX k f fd ps sp) (hr : Room k X.A) (hb : Binds X.K fd ps []) (hx : ∀ σ, PassesAt CX X σ (E σ)) (ha : PA X (e :: es) t)
    (hst : starEach (e :: es) X.env = (false, eval e X.env) :: starEach es X.env := by rfl) (hpl : (backTo pos (starEach es X.env)).any (·.1) = false := by rfl)
    (ht : eval (.Call (.Attribute o m apos) (e :: es) [] pos) X.env = (do
      let ov ← eval o X.env
      standAt apos.atName
      let (f, first) ← holding [ov] (getMethod ov m pl)
      callWith pos f first (backTo pos (starEach (e :: es) X.env)) (backToKw pos (keywordEach [] X.env))) := by rfl) :
    PE X (.Call (.Attribute o m apos) (e :: es) [] pos) (tMethW C m sp E ta t) := by
  refine ⟨fun pins s σ H Q I h => ?_⟩
  refine PySem.W.methodCall_KW (pl := pl) (thn (he.run pins s σ H _ I h) fun u s1 ⟨x, H1, I1, rx, a, dx, fs, ex, ea, l, q⟩ => ?_) ht
  subst ex
  obtain rfl : u = Value.ref a := rx
  refine getmeth_ok I1 ea c hm l ?_
  refine PySem.W.callWith_K (first := [.ref a]) (h₀ := X.base) I1.ok.mod.kin hm.kp (thn (ha.run pos pins s1 σ H1 _ I1 q) fun us s2 ⟨vs, H2, I2, r, q2⟩ => ⟨I2.kIn, ?_⟩) hst hpl
  exact run_fnS (us := .ref a :: us) (vs := .ref a :: vs) F hr hb (hx σ) I2 (.cons rfl r) q2
theorem pe_methW0 {pl : Sem Bool} (he : PE X o ta) (c : Cls X.K C) (hm : Meth X.K C m f) (F : FnOk X.prog X.w X.K X.mg X.base CX k f fd ps sp) (hr : Room k X.A) (hb : Binds X.K fd ps []) (hx : ∀ σ, PassesAt CX X σ (E σ))
    (ht : eval (.Call (.Attribute o m apos) [] [] pos) X.env = (do
      let ov ← eval o X.env
      standAt apos.atName
      let (f, first) ← holding [ov] (getMethod ov m pl)
      callWith pos f first (backTo pos (starEach [] X.env)) (backToKw pos (keywordEach [] X.env))) := by rfl) :
    PE X (.Call (.Attribute o m apos) [] [] pos) (tMethW C m sp E ta tNil) := by
  refine ⟨fun pins s σ H Q I h => ?_⟩
  refine PySem.W.methodCall_KW (pl := pl) (thn (he.run pins s σ H _ I h) fun u s1 ⟨x, H1, I1, rx, a, dx, fs, ex, ea, l, q⟩ => ?_) ht
  subst ex
  obtain rfl : u = Value.ref a := rx
  refine getmeth_ok I1 ea c hm l ?_
  exact PySem.W.callWith_K0 (first := [.ref a]) I1.kIn hm.kp (run_fnS (us := [.ref a]) (vs := [.ref a]) F hr hb (hx σ) I1 (.cons rfl .nil) q)
end
section
variable {X : Cx} {W : WX} {K : Fg} {J : List Nat} {F0 H0 F H F1 H1 F2 H2 : Hp} {σ : L2.St} {env : Env} {f : Env → M Sv} {gs : Env → M (List Sv)}
/-- a call by values that are at hand -/
theorem call_core {m : List D → M Sv} {Q : VK} {xs : List Sv} {vs : List V} {fp : List Addr} (g1 : Gr F H F1 H1) (w1 : Al K F1 H1 xs vs fp) (ox : Out (clR xs (m (xs.map (·.2)))) (EvOk K F H Q) (ExOk K F H W σ)) : spD K m vs H1 Q (WE W σ) := by
  have z : ∀ a ∈ fp, F1 a = none := fun a m => (w1.fp a m).1
  have hc : ∀ {F2 H2 : Hp}, Gr (frz F1 H1 fp) H1 F2 H2 → ∀ a us, F2 a = some (.tup us) → cut F2 fp a = some (.tup us) := fun {F2 H2} g2 a us e => by
    by_cases mm : a ∈ fp
    · obtain ⟨_, o, ho⟩ := w1.fp a mm
      have h2 := g2.fh a _ e
      rw [g2.hh a o ho] at h2
      cases h2
      exact absurd ho (w1.notup a mm us)
    · show (if a ∈ fp then none else F2 a) = some (.tup us)
      rw [if_neg mm]; exact e
  refine ⟨frz F1 H1 fp, xs.map (·.2), frz_fh g1.fh, Al.frozen (frz_ex z) (fun a m => frz_in m) w1, ?_⟩
  unfold clR at ox
  rcases q1 : m (xs.map (·.2)) with _ | e | x
  · rw [q1] at ox; exact (Out.no ox).elim
  · rw [q1] at ox
    obtain ⟨c, ox⟩ := Out.iff (show Out (if (lv0 xs || flatX e) = true then M.er e else M.no) _ _ from ox)
    refine .inr ⟨e, q1, fun cls dd F2 H2 g2 r2 => ?_⟩
    rcases ox with ⟨y, e2, _⟩ | ⟨e2, e3, k2⟩
    · cases (Option.some.inj e2)
    · cases (Except.error.inj (Option.some.inj e3))
      refine k2.on g1 cls dd (cut F2 fp) H2 (Gr.lent z g2) ?_
      by_cases l : lv0 xs = true
      · have e := Al.lv0 l w1
        subst e
        have : cut F2 [] = F2 := by funext a; exact if_neg (by simp)
        rw [this]; exact r2
      · have fx : flatX e = true := by simpa [l] using c
        refine ⟨r2.1, ?_⟩
        obtain ⟨ec, fld⟩ := e
        cases fld with
        | none => trivial
        | some q =>
          obtain ⟨p, v, fq, h1, h2, h3, h4, h5, h6⟩ := r2.2
          refine ⟨p, v, fq, h1, h2, h3, Ow.flatN (hc g2) fx (fun a m => ?_) h4, h5, h6⟩
          show (if a ∈ fp then none else F2 a) = none
          by_cases mm : a ∈ fp
          · rw [if_pos mm]
          · rw [if_neg mm]; exact (h4.fp a m).1
  · rw [q1] at ox
    obtain ⟨c, ox⟩ := Out.iff (show Out (if (lv0 xs || flatN x.1 x.2) = true then M.ok x else M.no) _ _ from ox)
    refine .inl ⟨x, q1, fun v F2 H2 fq g2 w2 nd nw => ?_⟩
    refine (ox.ok rfl).on g1 v (cut F2 fp) H2 fq (Gr.lent z g2) ?_ nd nw
    by_cases l : lv0 xs = true
    · have e := Al.lv0 l w1
      subst e
      have : cut F2 [] = F2 := by funext a; exact if_neg (by simp)
      rw [this]; exact w2
    · have fx : flatN x.1 x.2 = true := by simpa [l] using c
      refine Ow.flatN (hc g2) fx (fun a m => ?_) w2
      show (if a ∈ fp then none else F2 a) = none
      by_cases mm : a ∈ fp
      · rw [if_pos mm]
      · rw [if_neg mm]; exact (w2.fp a m).1
/-- an instance of the class at C, no field of that name -/
def isIns (C : Addr) (nm : Str) (d : D) : Bool := match d with | .ins C' fs _ => decide (C' = C) && fs.all fun x => !(x == nm) | _ => false
theorem lookup_none {nm : Str} : ∀ {ws : List (Str × V)} {fs : List Str}, ws.map (·.1) = fs → (fs.all fun x => !(x == nm)) = true → ws.lookup nm = none
  | [], _, _, _ => rfl
  | (a, b) :: r, [], h, _ => by cases h
  | (a, b) :: r, f :: fs, h, q => by
    rw [List.map_cons, List.cons.injEq] at h
    rw [List.all_cons, Bool.and_eq_true] at q
    have h1 : a = f := h.1
    subst h1
    have c : (nm == a) = false := beq_eq_false_iff_ne.mpr fun e => by
      subst e
      rw [beq_self_eq_true] at q
      exact absurd q.1 (by simp)
    rw [List.lookup_cons, c]
    exact lookup_none h.2 q.2
theorem isIns_v {C : Addr} {nm : Str} {x : Sv} {v : V} {fp : List Addr} (e : Ex F H) (w : Ow K F H x.1 x.2 v fp) (h : isIns C nm x.2 = true) : ∃ a dx ws, v = .ref a ∧ H a = some (.ins C dx ws) ∧ ws.lookup nm = none := by
  obtain ⟨n, d⟩ := x
  cases d with
  | ins C' fs ds =>
    have hh : (decide (C' = C) && fs.all fun x => !(x == nm)) = true := h
    rw [Bool.and_eq_true] at hh
    obtain ⟨hC, hN⟩ := hh
    have hC := of_decide_eq_true hC
    subst hC
    cases n with
    | zero =>
      obtain ⟨a, dx, ws, h1, h2, h3, h4⟩ := w.2
      exact ⟨a, dx, ws, h1, e _ _ h2, lookup_none h3 hN⟩
    | succ n =>
      obtain ⟨a, o, r, h1, h2, h3, h4, h5⟩ := w
      cases o with
      | ins C2 dx ws =>
        obtain ⟨h6, h7, h8⟩ := h5
        subst h6
        exact ⟨a, dx, ws, h1, h3, lookup_none h7 hN⟩
      | _ => exact h5.elim
  | _ => cases h
def fMeth (C : Addr) (nm : Str) (m : List D → M Sv) (f : Env → M Sv) (gs : Env → M (List Sv)) : Env → M Sv := fun env => bd (f env) fun o => bd (lf (if isIns C nm o.2 = true then some () else none)) fun _ => bd (gs env) fun xs => clR (o :: xs) (m (o.2 :: xs.map (·.2)))
theorem meth_of {C : Addr} {nm : Str} {m : List D → M Sv} {σ : L2.St} {Q : VK} (q : tD K W (fMeth C nm m f gs) σ H Q) : tMethW C nm (spD K m) (WE W) (tW K W f) (tAw K W gs) σ H Q := by
  obtain ⟨F0, H0, F, env, s, o⟩ := q
  have o : Out (fMeth C nm m f gs env) (EvOk K F H Q) (ExOk K F H W σ) := o
  refine tW.out s (Out.imp o.bd (fun x ox => ?_) fun _ k => k)
  obtain ⟨_, ec, ox⟩ := Out.lf ox.bd
  have c : isIns C nm x.2 = true := by
    by_cases c : isIns C nm x.2 = true
    · exact c
    · rw [if_neg c] at ec; cases ec
  intro v F1 H1 fp g1 w1
  obtain ⟨a, dx, ws, hv, ha, hl⟩ := isIns_v g1.fh w1 c
  subst hv
  refine ⟨a, dx, ws, rfl, ha, hl, ?_⟩
  refine tAw.out (s.on g1) (Out.imp ox.bd (fun xs oy => ?_) fun _ k => k.on g1)
  intro vs F2 H2 fq g2 w2
  exact call_core (xs := x :: xs) (g1.trans g2) ⟨.ref a, vs, fp, fq, rfl, rfl, w1.mono g2, w2⟩ oy
theorem pd_meth {CX : CXT} {k : Nat} {fa C : Addr} {fd : FuncData} {ps : List Str} {m : List D → M Sv} {nm : Str} {apos pos : Pos} {o e : Expr} {es : List Expr} {pl : Sem Bool} (he : PE X o (tW X.K W f)) (c : Cls X.K C) (hm : Meth X.K C nm fa) (G : FnOk X.prog X.w X.K X.mg X.base CX k fa fd ps (spD X.K m)) (hr : Room k X.A) (hb : Binds X.K fd ps []) (hx : ∀ σ, PassesAt CX X σ (WE W σ))
    (ha : PA X (e :: es) (tAw X.K W gs)) (hst : starEach (e :: es) X.env = (false, eval e X.env) :: starEach es X.env := by rfl) (hpl : (backTo pos (starEach es X.env)).any (·.1) = false := by rfl)
    (ht : eval (.Call (.Attribute o nm apos) (e :: es) [] pos) X.env = (do
      let ov ← eval o X.env
      standAt apos.atName
      let (f, first) ← holding [ov] (getMethod ov nm pl)
      callWith pos f first (backTo pos (starEach (e :: es) X.env)) (backToKw pos (keywordEach [] X.env))) := by rfl) :
    PE X (.Call (.Attribute o nm apos) (e :: es) [] pos) (tD X.K W (fMeth C nm m f gs)) := PE.imp (pe_methW he c hm G hr hb hx ha hst hpl ht) fun _ _ _ q => meth_of q
theorem pd_meth0 {CX : CXT} {k : Nat} {fa C : Addr} {fd : FuncData} {ps : List Str} {m : List D → M Sv} {nm : Str} {apos pos : Pos} {o : Expr} {pl : Sem Bool} (he : PE X o (tW X.K W f)) (c : Cls X.K C) (hm : Meth X.K C nm fa) (G : FnOk X.prog X.w X.K X.mg X.base CX k fa fd ps (spD X.K m)) (hr : Room k X.A) (hb : Binds X.K fd ps []) (hx : ∀ σ, PassesAt CX X σ (WE W σ))
    (ht : eval (.Call (.Attribute o nm apos) [] [] pos) X.env = (do
      let ov ← eval o X.env
      standAt apos.atName
      let (f, first) ← holding [ov] (getMethod ov nm pl)
      callWith pos f first (backTo pos (starEach [] X.env)) (backToKw pos (keywordEach [] X.env))) := by rfl) :
    PE X (.Call (.Attribute o nm apos) [] [] pos) (tD X.K W (fMeth C nm m f fNil)) := PE.imp (pe_methW0 he c hm G hr hb hx ht) fun σ H Q q => by
  obtain ⟨F0, H0, F, env, s, o⟩ := q
  have o : Out (fMeth C nm m f fNil env) (EvOk X.K F H Q) (ExOk X.K F H W σ) := o
  refine tW.out s (Out.imp o.bd (fun x ox => ?_) fun _ k => k)
  obtain ⟨_, ec, ox⟩ := Out.lf ox.bd
  have c : isIns C nm x.2 = true := by
    by_cases c : isIns C nm x.2 = true
    · exact c
    · rw [if_neg c] at ec; cases ec
  intro v F1 H1 fp g1 w1
  obtain ⟨a, dx, ws, hv, ha, hl⟩ := isIns_v g1.fh w1 c
  subst hv
  refine ⟨a, dx, ws, rfl, ha, hl, ?_⟩
  exact call_core (xs := [x]) g1 ⟨.ref a, [], fp, [], rfl, (List.append_nil fp).symm, w1, rfl, rfl⟩ (ox.bd.ok rfl)
end
end DP
/-! DP: methods that change their object. -/
namespace DP
open PySem L2 PySem.Spec PyProof.Rows
abbrev RM := Except (XD × D) (D × D)
section
variable {K : Fg} {F0 H0 F H F1 H1 F2 H2 : Hp} {σ : L2.St} {env : Env}
def URes (K : Fg) (F H0 : Hp) (lv : Nat) (v0 : V) (Q : VK) (E : XK) : RM → Prop
  | .ok x => ∀ v F' H' fp', Gr F H0 F' H' → Ow K F' H' lv x.2 v0 fp' → fp'.Nodup → (∀ a ∈ fp', H0 a = none) → Rp K F' x.1 v → Q v H'
  | .error x => ∀ cls dd F' H' fp', Gr F H0 F' H' → Ow K F' H' lv x.2 v0 fp' → fp'.Nodup → (∀ a ∈ fp', H0 a = none) → ExR K H0 F' H' cls dd x.1 → E cls dd H'
/-- the promise of a method that changes its object (lv layers owned) -/
def spU (K : Fg) (lv : Nat) (m : List D → Option RM) : Sp := fun vs H Q E => ∃ v0 vs' F H0 d0 fp ds r, vs = v0 :: vs' ∧ Gr F H0 F H ∧ Ow K F H lv d0 v0 fp ∧ fp.Nodup ∧ (∀ a ∈ fp, H0 a = none) ∧ RpL K F ds vs' ∧ m (d0 :: ds) = some r ∧ URes K F H0 lv v0 Q E r
def envU (N : List Str) (lv : Nat) (d0 : D) (ds : List D) : Env := some (lv, d0) :: (ds.map (fun d => some ((0, d) : Sv)) ++ List.replicate (N.length - (ds.length + 1)) none)
def self0 (lv : Nat) (env : Env) : Option D := match env[0]? with
  | some (some (n, d)) => if n = lv then some d else none
  | _ => none
def runU (N : List Str) (n lv : Nat) (g : Gs) : List D → Option RM
  | [] => none
  | d0 :: ds => if ds.length + 1 = n then (match g (envU N lv d0 ds) with
    | some (.nx env) => (self0 lv env).map fun d' => .ok (.non, d')
    | some (.rv d env) => (self0 lv env).map fun d' => .ok (d, d')
    | some (.er e env) => (self0 lv env).map fun d' => .error (e, d')
    | _ => none) else none
theorem SR.startU {N : List Str} {lv : Nat} {d0 : D} {v0 : V} {fp : List Addr} {ds : List D} {vs : List V} (g : Gr F H0 F H) (w : Ow K F H lv d0 v0 fp) (nd : fp.Nodup) (nw : ∀ a ∈ fp, H0 a = none) (r : RpL K F ds vs) :
    SR K F H0 F H (L2.start N (v0 :: vs)) (envU N lv d0 ds) := by
  refine ⟨g, ?_, fun i => if i = 0 then fp else [], fun i n d h => ?_, fun i => ?_, fun i j a ha hb => ?_, fun i a ha => ?_⟩
  · unfold envU L2.start
    simp [r.len]
  · cases i with
    | zero =>
      cases h
      refine ⟨v0, ?_, w⟩
      unfold L2.start
      rfl
    | succ i =>
      have h : (ds.map (fun d => some ((0, d) : Sv)) ++ List.replicate (N.length - (ds.length + 1)) none)[i]? = some (some (n, d)) := h
      by_cases l : i < ds.length
      · rw [List.getElem?_append_left (by simpa using l), List.getElem?_map] at h
        cases q : ds[i]? with
        | none => rw [q] at h; cases h
        | some d' =>
          rw [q] at h; cases h
          obtain ⟨v, hv, rv⟩ := r.get q
          refine ⟨v, ?_, rfl, rv⟩
          unfold L2.start
          rw [List.getElem?_append_left (by simp [← r.len]; omega), List.getElem?_map, List.getElem?_cons_succ, hv]
          rfl
      · rw [List.getElem?_append_right (by simpa using l)] at h
        obtain ⟨h1, h2⟩ := List.getElem?_eq_some_iff.mp h
        rw [List.getElem_replicate] at h2
        cases h2
  · dsimp only
    by_cases c : i = 0
    · rw [if_pos c]; exact nd
    · rw [if_neg c]; exact List.nodup_nil
  · dsimp only at ha hb
    by_cases c : i = 0
    · by_cases c' : j = 0
      · rw [c, c']
      · rw [if_neg c'] at hb; cases hb
    · rw [if_neg c] at ha; cases ha
  · dsimp only at ha
    by_cases c : i = 0
    · rw [if_pos c] at ha; exact nw a ha
    · rw [if_neg c] at ha; cases ha
/-- what stands in slot 0 at the end -/
theorem self0_at {N : List Str} {lv : Nat} {v0 : V} {vs : List V} {d' : D} (s : SR K F H0 F1 H1 σ env) (kp : KpJ [0] (L2.start N (v0 :: vs)) σ) (h : self0 lv env = some d') : ∃ fp', Ow K F1 H1 lv d' v0 fp' ∧ fp'.Nodup ∧ ∀ a ∈ fp', H0 a = none := by
  unfold self0 at h
  rcases q : env[0]? with _ | _ | ⟨n, d⟩
  · rw [q] at h; cases h
  · rw [q] at h; cases h
  · rw [q] at h
    have h : (if n = lv then some d else none) = some d' := h
    by_cases c : n = lv
    · rw [if_pos c] at h
      cases h
      subst c
      obtain ⟨fp, h1, h2, h3, h4⟩ := s.ex
      obtain ⟨v, e1, o⟩ := h1 0 n d' q
      have e2 : σ[0]? = some (some v0) := by
        rw [kp 0 List.mem_cons_self]
        unfold L2.start
        rfl
      rw [e2] at e1
      cases e1
      exact ⟨fp 0, o, h2 0, h4 0⟩
    · rw [if_neg c] at h; cases h
end
section
variable {P : Program} {w : World} {K : Fg} {mg : Str → Option Value} {base : Heap}
theorem fn_U {x qual : Str} {st : Stmt} {f : Addr} {fd : FuncData} {N ps : List Str} {k lv : Nat} {g : Gs} (F : Fun K x qual st f fd) (S : FnScope N ps (defScope st))
    (hb : ∀ (cdv : Value) (A : Around) (outer : List PySem.Env) (s : Shared) (H : Hp) (E : XK), Room k (A.deeper (envOfC qual (defScope st) s.heap.objs.size f cdv)) →
      Takes (cxOf (L2.CX P w) P w K mg base N qual (defScope st) f cdv A outer s H E) (fun cls d _ H => E cls d H) →
      PSs (cxOf (L2.CX P w) P w K mg base N qual (defScope st) f cdv A outer s H E) (defBody st) (tS K (fun cls d _ H => E cls d H) [0] g)) :
    FnOk P w K mg base (L2.CX P w) (k + 1) f fd ps (spU K lv (runU N ps.length lv g)) := by
  refine F.okX S (fun vs H Q E h => ?_) (fun cdv A outer s H vs Q E hr h => ⟨_, hb cdv A outer s H E hr (takes_of rfl rfl rfl rfl), ?_⟩)
  · obtain ⟨v0, vs', F', H0, d0, fp, ds, r, rfl, _, _, _, _, rl, hm, _⟩ := h
    by_cases c : ds.length + 1 = ps.length
    · rw [List.length_cons, ← rl.len]; exact c
    · unfold runU at hm; dsimp only at hm; rw [if_neg c] at hm; cases hm
  · obtain ⟨v0, vs', F', H0, d0, fp, ds, r, rfl, g0, w0, nd, nw, rl, hm, res⟩ := h
    unfold runU at hm
    dsimp only at hm
    by_cases c : ds.length + 1 = ps.length
    · rw [if_pos c] at hm
      cases q : g (envU N lv d0 ds) with
      | none => rw [q] at hm; cases hm
      | some fl =>
        rw [q] at hm
        refine ⟨F', H0, F', _, fl, SR.startU g0 w0 nd nw rl, q, ?_⟩
        cases fl with
        | nx env =>
          have hm : (self0 lv env).map (fun d' => (Except.ok (D.non, d') : RM)) = some r := hm
          cases q2 : self0 lv env with
          | none => rw [q2] at hm; cases hm
          | some d' =>
            rw [q2] at hm; cases hm
            intro σ F1 H1 _ s1 kp
            obtain ⟨fp', o1, n1, z1⟩ := self0_at s1 kp q2
            exact res .non F1 H1 fp' s1.g o1 n1 z1 rfl
        | rv d env =>
          have hm : (self0 lv env).map (fun d' => (Except.ok (d, d') : RM)) = some r := hm
          cases q2 : self0 lv env with
          | none => rw [q2] at hm; cases hm
          | some d' =>
            rw [q2] at hm; cases hm
            intro v σ F1 H1 _ s1 kp rp
            obtain ⟨fp', o1, n1, z1⟩ := self0_at s1 kp q2
            exact res v F1 H1 fp' s1.g o1 n1 z1 rp
        | er e1 env =>
          have hm : (self0 lv env).map (fun d' => (Except.error (e1, d') : RM)) = some r := hm
          cases q2 : self0 lv env with
          | none => rw [q2] at hm; cases hm
          | some d' =>
            rw [q2] at hm; cases hm
            intro cls dd σ F1 H1 _ s1 kp rx
            obtain ⟨fp', o1, n1, z1⟩ := self0_at s1 kp q2
            exact res cls dd F1 H1 fp' s1.g o1 n1 z1 rx
        | rt v => cases hm
        | bk env => cases hm
        | ct env => cases hm
    · rw [if_neg c] at hm; cases hm
end
/-! ### o.m(..), o's object at a place -/
section
variable {X : Cx} {W : WX} {K : Fg} {J : List Nat} {F0 H0 F H F1 H1 F2 H2 : Hp} {σ : L2.St} {env : Env} {gs : Env → M (List Sv)}
def outU (i : Nat) (x : Sv) (p : List Nat) (env : Env) (q : RM) : RU := match q with
  | Except.ok y => Except.ok (y.1, env.set i (some (x.1, putN p x.2 y.2)))
  | Except.error y => Except.error (y.1, env.set i (some (x.1, putN p x.2 y.2)))
def uMeth (C : Addr) (nm : Str) (lv : Nat) (m : List D → Option RM) (P : Pl) (gs : Env → M (List Sv)) (env : Env) : MU := mP (plGet P env) fun r => mP (lf (if r.2.2.1 = lv ∧ 1 ≤ lv ∧ isIns C nm r.2.2.2 = true then some () else none)) fun _ => mB (gs env) env fun xs => mP (lf (if lv0 xs = true then some () else none)) fun _ =>
  (m (r.2.2.2 :: xs.map (·.2))).map (outU P.i r.2.1 r.1 env)
theorem mP_if {c : Prop} [Decidable c] {k : Unit → MU} {r : RU} (h : mP (lf (if c then some () else none)) k = some r) : c ∧ k () = some r := by
  obtain ⟨_, e, q⟩ := mP_lf h
  by_cases hc : c
  · exact ⟨hc, q⟩
  · rw [if_neg hc] at e; cases e
theorem ins_at (s : SR K F0 H0 F H σ env) {C : Addr} {nm : Str} {P : Pl} {p : List Nat} {x : Sv} {n : Nat} {d : D} (eP : plGet P env = M.ok (p, x, (n + 1, d))) (c : isIns C nm d = true) {v u : V} (e : Ex H H1) (hv : σ[P.i]? = some (some v)) (nv : NavV H1 p v u) : ∃ a dx ws, u = .ref a ∧ H a = some (.ins C dx ws) ∧ ws.lookup nm = none := by
  obtain ⟨e1, e2, e3⟩ := plGet_ok eP
  obtain ⟨fr, q1, q2, _, _⟩ := s.ex
  obtain ⟨v0, hv0, ow⟩ := q1 _ _ _ e2
  obtain ⟨u0, sub, nv0, o1, _, _, _⟩ := Ow.nav ow (q2 _) e3
  rw [hv] at hv0
  cases hv0
  have := NavV.det nv (nv0.on e)
  subst this
  exact isIns_v (x := (n + 1, d)) s.fh o1 c
theorem meth_core {lv : Nat} {m : List D → Option RM} {P : Pl} {p : List Nat} {x : Sv} {d : D} {Q : VK} {xs : List Sv} {vs : List V} {fq : List Addr} {q : RM} {v : V} {a : Addr} (s : SR K F0 H0 F H σ env) (g : Gr F H F2 H2) (eP : plGet P env = M.ok (p, x, (lv, d))) (hv : σ[P.i]? = some (some v)) (nv : NavV H2 p v (.ref a))
    (w2 : Al K F2 H2 xs vs fq) (l0 : lv0 xs = true) (hm : m (d :: xs.map (·.2)) = some q)
    (k : UOk K F0 H0 F W σ Q (outU P.i x p env q)) : spU K lv m (.ref a :: vs) H2 Q (WE W σ) := by
  obtain ⟨e1, e2, e3⟩ := plGet_ok eP
  obtain ⟨n1, d1⟩ := x
  refine s.mutP g e2 e3 fun v' u sub hv' nv' o1 nds hsub up => ?_
  rw [hv] at hv'
  cases hv'
  have eu : u = .ref a := NavV.det (nv'.on g.hh) nv
  subst eu
  have fq0 := Al.lv0 l0 w2
  subst fq0
  have rl : RpL K F2 (xs.map (·.2)) vs := Al.frozen (fp := []) (Ex.rfl' _) (fun _ m => nomatch m) w2
  have hB : ∀ b, b ∈ sub → (fun b => if b ∈ sub then none else H2 b : Hp) b = none := fun b m => if_pos m
  have hN : ∀ b o, b ∉ sub → H2 b = some o → (fun b => if b ∈ sub then none else H2 b : Hp) b = some o := fun b o m e => by
    show (if b ∈ sub then none else H2 b) = some o
    rw [if_neg m]; exact e
  have hO : ∀ b o, (fun b => if b ∈ sub then none else H2 b : Hp) b = some o → b ∉ sub ∧ H2 b = some o := fun b o e => by
    have e : (if b ∈ sub then none else H2 b) = some o := e
    by_cases c : b ∈ sub
    · rw [if_pos c] at e; cases e
    · rw [if_neg c] at e; exact ⟨c, e⟩
  generalize (fun b => if b ∈ sub then none else H2 b : Hp) = B at hB hN hO
  have back : ∀ b, B b = none → b ∈ sub ∨ H b = none := fun b e => by
    by_cases c : b ∈ sub
    · exact .inl c
    · refine .inr ?_
      cases h : H b with
      | none => rfl
      | some o =>
        rw [hN b o c (g.hh b o h)] at e; cases e
  refine ⟨.ref a, vs, F2, B, d, sub, xs.map (·.2), q, rfl, ⟨Ex.rfl' _, fun b o e => (hO b o e).2, (s.on g).fh, fun _ _ _ _ => rfl⟩, o1, nds, hB, rl, hm, ?_⟩
  have st : ∀ {F3 H3 : Hp}, Gr F2 B F3 H3 → ∀ b o, b ∉ sub → H2 b = some o → H3 b = some o ∧ (NT o → F3 b = F2 b) := fun g3 b o m e => ⟨g3.hh _ _ (hN b o m e), g3.nw b o (hN b o m e)⟩
  cases q with
  | ok y =>
    intro v2 F3 H3 fp' g3 o3 n3 z3 r3
    exact k v2 F3 H3 (g.ff.tr g3.ff) (up F3 H3 y.2 fp' g3.ff g3.fh o3 n3 (fun b m => back b (z3 b m)) (st g3)) r3
  | error y =>
    intro cls dd F3 H3 fp' g3 o3 n3 z3 r3
    exact k cls dd F3 H3 (g.ff.tr g3.ff) (up F3 H3 y.2 fp' g3.ff g3.fh o3 n3 (fun b m => back b (z3 b m)) (st g3)) (r3.on fun b o e => hN b o (fun m => by
      have := (hsub b m).2.1
      rw [e] at this; cases this) (g.hh _ _ (s.g.hh b o e)))
theorem pu_meth {CX : CXT} {k lv : Nat} {fa C : Addr} {fd : FuncData} {ps : List Str} {m : List D → Option RM} {nm : Str} {apos pos : Pos} {o e : Expr} {es : List Expr} {pl : Sem Bool} {P : Pl} (he : PE X o (tPl X.K P)) (c : Cls X.K C) (hm : Meth X.K C nm fa) (G : FnOk X.prog X.w X.K X.mg X.base CX k fa fd ps (spU X.K lv m)) (hr : Room k X.A) (hb : Binds X.K fd ps []) (hx : ∀ σ, PassesAt CX X σ (WE W σ))
    (ha : PA X (e :: es) (tAw X.K W gs)) (hst : starEach (e :: es) X.env = (false, eval e X.env) :: starEach es X.env := by rfl) (hpl : (backTo pos (starEach es X.env)).any (·.1) = false := by rfl)
    (ht : eval (.Call (.Attribute o nm apos) (e :: es) [] pos) X.env = (do
      let ov ← eval o X.env
      standAt apos.atName
      let (f, first) ← holding [ov] (getMethod ov nm pl)
      callWith pos f first (backTo pos (starEach (e :: es) X.env)) (backToKw pos (keywordEach [] X.env))) := by rfl) :
    PE X (.Call (.Attribute o nm apos) (e :: es) [] pos) (tU X.K W (uMeth C nm lv m P gs)) := PE.imp (pe_methW he c hm G hr hb hx ha hst hpl ht) fun σ H Q ⟨F0, H0, F, env, r, s, q, k⟩ => by
  obtain ⟨⟨p, x, ⟨n', d⟩⟩, eP, q⟩ := mP_some q
  obtain ⟨cc, q2⟩ := mP_if q
  obtain ⟨c1, c2, c3⟩ := cc
  have c1 : n' = lv := c1
  subst c1
  refine ⟨F0, H0, F, env, p, x, (n', d), s, eP, fun v u F1 H1 g1 hv nv => ?_⟩
  obtain ⟨n, rfl⟩ : ∃ n, n' = n + 1 := ⟨n' - 1, by omega⟩
  obtain ⟨a, dx, ws, hu, hHa, hl⟩ := ins_at s eP c3 g1.hh hv nv
  subst hu
  refine ⟨a, dx, ws, rfl, g1.hh _ _ hHa, hl, ?_⟩
  have s1 := s.on g1
  rcases mB_some q2 with ⟨xs, ex, q3⟩ | ⟨e, ef, er⟩
  · refine ⟨F0, H0, F1, env, s1, .inl ⟨xs, ex, fun vs F2 H2 fq g2 w2 => ?_⟩⟩
    obtain ⟨l0, q4⟩ := mP_if q3
    have q4 : (m (d :: xs.map (·.2))).map (outU P.i x p env) = some r := q4
    cases hq : m (d :: xs.map (·.2)) with
    | none =>
      rw [hq] at q4
      cases q4
    | some y =>
      rw [hq] at q4
      cases q4
      exact meth_core s (g1.trans g2) eP hv (nv.on g2.hh) w2 l0 hq k
  · subst er
    exact ⟨F0, H0, F1, env, s1, .inr ⟨e, ef, (UOk.er s k).on g1⟩⟩
end
end DP
/-! DP: new objects. -/
namespace DP
open PySem L2 PySem.Spec PyProof.Rows
section
variable {X : Cx} {CX : CXT} {k : Nat} {f C : Addr} {fd : FuncData} {ps : List Str} {sp : Sp} {E : L2.St → XK} {x : Str} {p pos : Pos} {e : Expr} {es : List Expr} {t : TA}
theorem run_makeS {pins : List (Addr × Obj)} {σ : L2.St} {H : Hp} {s : Shared} {Q : VK} {us : List Value} {vs : List V} (M : Mk X.K C f) (F : FnOk X.prog X.w X.K X.mg X.base CX k f fd ps sp) (hr : Room (k + 1) X.A) (hb : Binds X.K fd ps [])
    (hx : PassesAt CX X σ (E σ)) (I : Inv X pins σ H s) (r : Vals vs us)
    (h : ∀ x dx, H x = none → H dx = none → dx ≠ x → sp (.ref x :: vs) (upd (upd H dx (.own x)) x (.ins C dx [])) (fun v H2 => v = .non ∧ Q (.ref x) H2) (E σ)) :
    wpAny (model X.prog X.w) X.A (call (.ref C) us) (EP X pins σ Q) X.xe s := by
  have hq := h (s.heap.objs.size + 1) s.heap.objs.size (I.hok.fresh (Nat.le_succ _)) (I.hok.fresh (Nat.le_refl _)) (Nat.ne_of_lt (Nat.lt_succ_self _))
  have I2 := Inv.made (C := C) I
  have r2 : Vals (V.ref (s.heap.objs.size + 1) :: vs) (Value.ref (s.heap.objs.size + 1) :: us) := .cons rfl r
  have hl : (Value.ref (s.heap.objs.size + 1) :: us).length = ps.length := by
    have e := r2.length
    rw [F.len _ _ _ _ hq] at e
    exact e.symm
  have b := hb _ (Value.ref (s.heap.objs.size + 1) :: us) I2.kIn (by rw [List.append_nil]; exact hl)
  rw [List.append_nil] at b
  refine wpAny_call (make_map (f := f) I.kIn M.makes M.init (beq_iff_eq.mp M.fn) (codeAny_mono (F.run _ X.stack _ _ ⟨Value.ref (s.heap.objs.size + 1) :: us, []⟩ (Value.ref (s.heap.objs.size + 1) :: us) _ _ (E σ) (hr.make C us [])
    (I2.env0.make C us []) b r2 hq) fun r s' hq' => ?_))
  cases r with
  | error e => exact hx pins _ _ e s' I2 hq'
  | ok fl =>
    cases fl with
    | ret u =>
      obtain ⟨v, H', I3, rv, ev, q3⟩ := I2.after hq'
      subst ev
      exact ⟨rv, ⟨V.ref (s.heap.objs.size + 1), H', I3, rfl, q3⟩⟩
    | next => exact False.elim hq'
    | brk => exact False.elim hq'
    | cont => exact False.elim hq'
def tMakeW (C : Addr) (sp : Sp) (E : L2.St → XK) (t : TA) : TE := fun σ H Q => t σ H fun vs H1 => ∀ x dx, H1 x = none → H1 dx = none → dx ≠ x → sp (.ref x :: vs) (upd (upd H1 dx (.own x)) x (.ins C dx [])) (fun v H2 => v = .non ∧ Q (.ref x) H2) (E σ)
theorem pe_makeW (M : Mk X.K C f) (F : FnOk X.prog X.w X.K X.mg X.base CX k f fd ps sp) (hr : Room (k + 1) X.A) (hg : Gl X x) (hm : X.mg x = some (.ref C)) (hb : Binds X.K fd ps []) (hx : ∀ σ, PassesAt CX X σ (E σ))
    (ha : PA X (e :: es) t) (hdb : (x == ("__debug__" : Str)) = false := by decide) (he : starEach (e :: es) X.env = (false, eval e X.env) :: starEach es X.env := by rfl) (hpl : (backTo pos (starEach es X.env)).any (·.1) = false := by rfl) :
    PE X (.Call (.Name x p) (e :: es) [] pos) (tMakeW C sp E t) := by
  refine ⟨fun pins s σ H Q I h => ?_⟩
  refine wpAny_Call_Name_kw (ld_glob I hg hm ?_ hdb)
  refine PySem.W.callWith_K (h₀ := X.base) I.ok.mod.kin M.kp (thn (ha.run pos pins s σ H _ I h) fun us s1 ⟨vs, H1, I1, r, q⟩ => ⟨I1.kIn, ?_⟩) he hpl
  exact run_makeS M F hr hb (hx σ) I1 r q
end
section
variable {X : Cx} {W : WX} {K : Fg} {J : List Nat} {F0 H0 F H F1 H1 F2 H2 : Hp} {σ : L2.St} {env : Env} {gs : Env → M (List Sv)}
def mkR (lv : Nat) (r : Option RM) : M Sv := match r with
  | some (Except.ok y) => if isNone y.1 = true then M.ok (lv, y.2) else M.no
  | some (Except.error y) => M.er y.1
  | none => M.no
def fMake (C : Addr) (lv : Nat) (m : List D → Option RM) (gs : Env → M (List Sv)) : Env → M Sv := fun env => bd (gs env) fun xs => clR xs (mkR (lv + 1) (m (.ins C [] [] :: xs.map (·.2))))
theorem Gr.lo {H0' : Hp} (e : Ex H H0') (g : Gr F H0' F1 H1) : Gr F H F1 H1 := ⟨g.ff, e.tr g.hh, g.fh, fun a o h => g.nw a o (e a o h)⟩
theorem make_of {C : Addr} {lv : Nat} {m : List D → Option RM} {Q : VK} (q : tD K W (fMake C lv m gs) σ H Q) : tMakeW C (spU K (lv + 1) m) (WE W) (tAw K W gs) σ H Q := by
  obtain ⟨F0, H0, F, env, s, o⟩ := q
  have o : Out (fMake C lv m gs env) (EvOk K F H Q) (ExOk K F H W σ) := o
  refine tAw.out s (Out.imp o.bd (fun xs ox => ?_) fun _ k => k)
  intro vs F1 H1 fp g1 w1 x dx hx hdx hne
  have z : ∀ a ∈ fp, F1 a = none := fun a m => (w1.fp a m).1
  have hc : ∀ {F2 H2 : Hp}, Gr (frz F1 H1 fp) H1 F2 H2 → ∀ a us, F2 a = some (.tup us) → cut F2 fp a = some (.tup us) := fun {F2 H2} g2 a us e => by
    by_cases mm : a ∈ fp
    · obtain ⟨_, o, ho⟩ := w1.fp a mm
      have h2 := g2.fh a _ e
      rw [g2.hh a o ho] at h2
      cases h2
      exact absurd ho (w1.notup a mm us)
    · show (if a ∈ fp then none else F2 a) = some (.tup us)
      rw [if_neg mm]; exact e
  have ff : Ex (frz F1 H1 fp) H1 := frz_fh g1.fh
  have e0 : Ex H1 (upd H1 dx (.own x)) := Ex.new' hdx
  have hx0 : (upd H1 dx (.own x)) x = none := by rw [upd_ne (Ne.symm hne)]; exact hx
  have e1 : Ex (upd H1 dx (.own x)) (upd (upd H1 dx (.own x)) x (.ins C dx [])) := Ex.new' hx0
  have fx : (frz F1 H1 fp) x = none := ff.back hx
  unfold clR at ox
  refine (show ∃ r, m (.ins C [] [] :: xs.map (·.2)) = some r ∧ URes K (frz F1 H1 fp) (upd H1 dx (.own x)) (lv + 1) (.ref x) (fun v H2 => v = .non ∧ Q (.ref x) H2) (WE W σ) r from ?_).elim fun r hr => ?_
  · cases hm : m (.ins C [] [] :: xs.map (·.2)) with
    | none => rw [hm] at ox; exact (Out.no ox).elim
    | some r =>
      rw [hm] at ox
      refine ⟨r, rfl, ?_⟩
      cases r with
      | ok y =>
        have ox : Out (match (if isNone y.1 = true then M.ok (lv + 1, y.2) else M.no : M Sv) with | none => none | some (.ok x) => if (lv0 xs || flatN x.1 x.2) = true then M.ok x else M.no | some (.error e) => if (lv0 xs || flatX e) = true then M.er e else M.no) (EvOk K F H Q) (ExOk K F H W σ) := ox
        by_cases hn : isNone y.1 = true
        · rw [if_pos hn] at ox
          obtain ⟨c, ox⟩ := Out.iff (show Out (if (lv0 xs || flatN (lv + 1) y.2) = true then M.ok (lv + 1, y.2) else M.no) _ _ from ox)
          intro v F3 H3 fq g3 w3 nd nw rv
          have g3' := Gr.lo e0 g3
          refine ⟨?_, (ox.ok rfl).on g1 (.ref x) (cut F3 fp) H3 fq (Gr.lent z g3') ?_ nd (fun a m => e0.back (nw a m))⟩
          · obtain ⟨y1, y2⟩ := y
            cases y1 <;> first | exact rv | cases hn
          · by_cases l : lv0 xs = true
            · have e := Al.lv0 l w1
              subst e
              have : cut F3 [] = F3 := by funext a; exact if_neg (by simp)
              rw [this]; exact w3
            · have fx : flatN (lv + 1) y.2 = true := by simpa [l] using c
              refine Ow.flatN (hc g3') fx (fun a m => ?_) w3
              show (if a ∈ fp then none else F3 a) = none
              by_cases mm : a ∈ fp
              · rw [if_pos mm]
              · rw [if_neg mm]; exact (w3.fp a m).1
        · rw [if_neg hn] at ox; exact (Out.no ox).elim
      | error y =>
        obtain ⟨c, ox⟩ := Out.iff (show Out (if (lv0 xs || flatX y.1) = true then M.er y.1 else M.no) _ _ from ox)
        intro cls dd F3 H3 fq g3 w3 nd nw r2
        have g3' := Gr.lo e0 g3
        have r2 := r2.on e0
        rcases ox with ⟨y', e2, _⟩ | ⟨e2, e3, k2⟩
        · cases (Option.some.inj e2)
        · cases (Except.error.inj (Option.some.inj e3))
          refine k2.on g1 cls dd (cut F3 fp) H3 (Gr.lent z g3') ?_
          by_cases l : lv0 xs = true
          · have e := Al.lv0 l w1
            subst e
            have : cut F3 [] = F3 := by funext a; exact if_neg (by simp)
            rw [this]; exact r2
          · have fx : flatX y.1 = true := by simpa [l] using c
            refine ⟨r2.1, ?_⟩
            obtain ⟨⟨ec, fld⟩, y2⟩ := y
            cases fld with
            | none => trivial
            | some q =>
              obtain ⟨p, v, fq', h1, h2, h3, h4, h5, h6⟩ := r2.2
              refine ⟨p, v, fq', h1, h2, h3, Ow.flatN (hc g3') fx (fun a m => ?_) h4, h5, h6⟩
              show (if a ∈ fp then none else F3 a) = none
              by_cases mm : a ∈ fp
              · rw [if_pos mm]
              · rw [if_neg mm]; exact (h4.fp a m).1
  · exact ⟨.ref x, vs, frz F1 H1 fp, upd H1 dx (.own x), .ins C [] [], [x], xs.map (·.2), r, rfl, ⟨Ex.rfl' _, e1, (ff.tr e0).tr e1, fun _ _ _ _ => rfl⟩,
      ⟨x, _, [], rfl, fx, upd_same, rfl, rfl, rfl, rfl, rfl⟩, List.nodup_cons.mpr ⟨by simp, List.nodup_nil⟩, fun a m => by rw [List.mem_singleton] at m; rw [m]; exact hx0, Al.frozen (frz_ex z) (fun a m => frz_in m) w1, hr.1, hr.2⟩
theorem pd_make {CX : CXT} {k lv : Nat} {fa C : Addr} {fd : FuncData} {ps : List Str} {m : List D → Option RM} {x : Str} {p pos : Pos} {e : Expr} {es : List Expr} (M : Mk X.K C fa) (G : FnOk X.prog X.w X.K X.mg X.base CX k fa fd ps (spU X.K (lv + 1) m)) (hr : Room (k + 1) X.A) (hm : X.mg x = some (.ref C)) (hb : Binds X.K fd ps []) (hx : ∀ σ, PassesAt CX X σ (WE W σ))
    (ha : PA X (e :: es) (tAw X.K W gs)) (hg : Gl X x := by rfl) (hdb : (x == ("__debug__" : Str)) = false := by decide) (he : starEach (e :: es) X.env = (false, eval e X.env) :: starEach es X.env := by rfl) (hpl : (backTo pos (starEach es X.env)).any (·.1) = false := by rfl) :
    PE X (.Call (.Name x p) (e :: es) [] pos) (tD X.K W (fMake C lv m gs)) := PE.imp (pe_makeW M G hr hg hm hb hx ha hdb he hpl) fun _ _ _ q => make_of q
end
end DP
/-! DP: sorted(d), d a dict whose keys are pairs of ints. -/
namespace DP
open PySem L2 PySem.Spec PyProof.Rows
/-- the pair that stands at an address -/
def kOf (H : Hp) (u : Value) : Int × Int := match u with
  | .ref t => match H t with
    | some (.tup [.int i, .int j]) => (i, j)
    | _ => (0, 0)
  | _ => (0, 0)
theorem paired_get {α β : Type} {R : α → β → Prop} {l : List α} {m : List β} (h : Paired R l m) : ∀ {j : Nat} {a : α} {b : β}, l[j]? = some a → m[j]? = some b → R a b := by
  induction h with
  | nil => intro j a b h1; cases h1
  | cons r t ih =>
    intro j a b h1 h2
    cases j with
    | zero => cases h1; cases h2; exact r
    | succ j => exact ih h1 h2
abbrev kyP (p : Int × Int) : List L2.Key := [Sum.inl p.1, Sum.inl p.2]
def rSortedDT : List V → Hp → VK → Prop := fun vs H Q => ∃ (a : Addr) (kvs : List (List L2.Key × V)) (ps : List (Int × Int)), vs = [.ref a] ∧ Rd H a (.dT kvs) ∧ kvs.map (·.1) = ps.map kyP ∧
  ∀ (ts : List Addr) (qs : List (Int × Int)) (p : Addr), ts.length = qs.length → (∀ (j : Nat) (t : Addr) (q : Int × Int), ts[j]? = some t → qs[j]? = some q → H t = some (.tup [.int q.1, .int q.2])) → qs.Perm ps → qs.Pairwise (fun x y => SrtO.lexB y x = false) → H p = none → Q (.ref p) (upd H p (.lst (ts.map V.ref)))
section
variable {X : Cx}
theorem cr_sortedDT (hc : X.calm = true) : CallR X (.builtin "sorted") rSortedDT := by
  intro pins s σ H xs us Q I r q
  obtain ⟨a, kvs, ps, rfl, hd, hks, q⟩ := q
  obtain ⟨u, rfl, rx⟩ := vals1 r
  cases rx
  obtain ⟨z, hs, ks, pr, o, es, ep, ho, hx, hdt, he, hn⟩ := (show ObjOk X.prog X.w H s.heap a (.dT kvs) from hd.ok I.hok)
  have l1 : es.size = ks.length := size_of_entries he
  have l2 : kvs.length = ks.length := Paired.length pr
  have l3 : kvs.length = ps.length := by
    have := congrArg List.length hks
    rwa [List.length_map, List.length_map] at this
  refine Calls.call_function_entry PyProof.Rows.kind_sorted PyProof.Rows.plain_sorted PyProof.Rows.entry_sorted (PyProof.Rows.args_sorted1 _) ?_
  unfold Builtin.«sorted»
  refine wpAny_bind (m := checkCount "sorted" 1 1 _) (wpAny_pure ?_)
  refine wpAny_bind (PySem.W.kdu_collect (A := X.A.in1) (kdl_raw hs hx hdt) (I.ok.hd hc) ho (by omega) fun h' tk acc hk it => ?_)
  have ea : acc.toList = ks.map fun x => Value.ref x.2.1 := by
    have hl : acc.toList.length = ks.length := by rw [Array.length_toList, it.1]; exact l1
    apply List.ext_getElem?
    intro j
    rw [List.getElem?_map]
    cases hj : acc.toList[j]? with
    | none =>
      have h1 := List.getElem?_eq_none_iff.mp hj
      rw [List.getElem?_eq_none (by omega)]
      all_goals rfl
    | some v =>
      obtain ⟨en, hen, hv⟩ := it.2 j v (by rw [← Array.getElem?_toList]; exact hj)
      have qe := entry_at he j
      rw [hen] at qe
      cases hb : ks[j]? with
      | none =>
        rw [hb] at qe
        exact nomatch (show some en = none from qe)
      | some b =>
        rw [hb] at qe
        have e2 : en = entryOfKey (tupleKind (mixKind X.prog X.w)) b := Option.some.inj qe
        rw [hv, e2]
        all_goals rfl
  generalize hvs : acc.toList = vs at ea
  have lv : vs.length = ks.length := by rw [ea, List.length_map]
  have hz : vs.length ≤ sizeLine := by omega
  have I1 : Inv X pins σ H { s with heap := h', toks := tk } := I.kept hk
  -- what the keys are
  have at_ : ∀ (j : Nat) (v : Value), vs[j]? = some v → ∃ t p, v = .ref t ∧ ps[j]? = some p ∧ H t = some (.tup [.int p.1, .int p.2]) := by
    intro j v hj
    rw [ea, List.getElem?_map] at hj
    cases hb : ks[j]? with
    | none => rw [hb] at hj; cases hj
    | some b =>
      rw [hb] at hj
      cases hj
      have hkl : j < kvs.length := by rw [l2]; exact (List.getElem?_eq_some_iff.mp hb).1
      have pj := paired_get pr (List.getElem?_eq_getElem hkl) hb
      have hkj : (kvs.map (·.1))[j]? = some (kvs[j]'hkl).1 := by rw [List.getElem?_map, List.getElem?_eq_getElem hkl]; rfl
      rw [hks, List.getElem?_map] at hkj
      cases hp : ps[j]? with
      | none => rw [hp] at hkj; cases hkj
      | some p =>
        rw [hp] at hkj
        have e : kyP p = (kvs[j]'hkl).1 := Option.some.inj hkj
        refine ⟨b.2.1, p, rfl, rfl, ?_⟩
        have h2 := pj.2.1
        rw [← e] at h2
        exact h2
  have kk : ∀ v ∈ vs, ∃ t p, v = .ref t ∧ p ∈ ps ∧ H t = some (.tup [.int p.1, .int p.2]) := fun v m => by
    obtain ⟨j, hj⟩ := List.getElem?_of_mem m
    obtain ⟨t, p, e1, e2, e3⟩ := at_ j v hj
    exact ⟨t, p, e1, List.mem_of_getElem? e2, e3⟩
  have kO : ∀ {t : Addr} {p : Int × Int}, H t = some (.tup [.int p.1, .int p.2]) → kOf H (.ref t) = p := fun {t p} e => by
    show (match H t with | some (.tup [.int i, .int j]) => (i, j) | _ => (0, 0)) = p
    rw [e]
  have pair : ∀ {h : Heap}, HOk X.prog X.w H h → ∀ v ∈ vs, Srt.IsPair h v (kOf H v).1 (kOf H v).2 := fun {h} ok v m => by
    obtain ⟨t, p, rfl, _, e⟩ := kk v m
    rw [kO e]
    obtain ⟨_, its2, r2, o, ho, hcl, n, hd⟩ := ok _ _ e
    obtain ⟨u1, u2, rfl, ri, rj⟩ := vals2 r2
    obtain ⟨t1, rfl⟩ := ri
    obtain ⟨t2, rfl⟩ := rj
    exact ⟨t, o, t1, t2, n, rfl, ho, hcl, hd⟩
  refine wpAny_bind (wpAny_newList ?_ hz)
  have hoL : (h'.push (seqObj "list" vs.toArray 0)).get? h'.objs.size = some (seqObj "list" vs.toArray 0) := Heap.get?_push_size _ rfl
  show wpAny _ _ _ _ _ { s with heap := h'.push (seqObj "list" vs.toArray 0), toks := tk }
  refine wpAny_bind (wpAny_holding (wpAny_call_entry PyProof.Rows.slot_list_sort ⟨_, hoL, rfl⟩ PyProof.Rows.entry_list_sort
    (SrtO.list_sort_ord (s := { s with heap := h'.push (seqObj "list" vs.toArray 0), toks := tk }) (ltv := fun v u => SrtO.lexB (kOf H v) (kOf H u)) (SrtO.swo_lex (kOf H)) hoL hz (fun h2 => ?_) fun out hs hb => ⟨_, rfl, ?_⟩)
    (PyProof.Rows.args_list_sort _)))
  · refine SrtO.pairs_sortableO (by omega) (fun v hm => (pair I1.hok v hm).keeps fun b o e _ => Heap.get?_push_of_some _ e) fun o e => ?_
    have e' : some o = some (seqObj "list" vs.toArray 0) := e.symm.trans hoL
    cases e'
    intro c
    exact absurd (Value.type.inj c) (by decide)
  · obtain ⟨e', he'⟩ := PyProof.Rows.sortedHeap_at (vs := vs) (out := out.toArray) hoL
    have hmem : ∀ u ∈ out, u ∈ vs := fun u m => hb.perm.mem_iff.mp m
    -- the addresses
    have href : ∀ u ∈ out, ∃ a, u = Value.ref a := fun u m => by
      obtain ⟨t, _, e, _, _⟩ := kk u (hmem u m)
      exact ⟨t, e⟩
    let ad : Value → Addr := fun u => match u with | .ref t => t | _ => 0
    have eo : (out.map ad).map V.ref = out.map backV := by
      rw [List.map_map]
      exact List.map_congr_left fun u m => by
        obtain ⟨t, rfl⟩ := href u m
        rfl
    have lo : out.length = vs.length := hb.perm.length_eq
    have ep' : vs.map (kOf H) = ps := by
      apply List.ext_getElem?
      intro j
      rw [List.getElem?_map]
      cases hj : vs[j]? with
      | none =>
        have := List.getElem?_eq_none_iff.mp hj
        rw [List.getElem?_eq_none (by omega)]; rfl
      | some v =>
        obtain ⟨t, p, rfl, e2, e3⟩ := at_ j v hj
        rw [e2, Option.map_some, kO e3]
    refine wpAny_pure ⟨_, rfl, .ref h'.objs.size, upd H h'.objs.size (.lst ((out.map ad).map V.ref)), I1.laid (t' := tk) (fun b u e => ?_) (Nat.le_refl _)
      (show ObjOk X.prog X.w _ _ _ (.lst ((out.map ad).map V.ref)) from ⟨by rw [List.length_map, List.length_map, lo]; exact hz, out, e', by rw [eo]; exact vals_back href, he'⟩), rfl,
      q (out.map ad) (out.map (kOf H)) _ (by rw [List.length_map, List.length_map]) (fun j t p h1 h2 => ?_) ?_ ?_ (I1.hok.fresh (Nat.le_refl _))⟩
    · have hb : b < h'.objs.size := Heap.lt_size e
      rw [PyProof.Rows.sortedHeap_old (Nat.ne_of_lt hb) (by rw [size_push']; exact Nat.lt_succ_of_lt hb)]
      exact Heap.get?_push_of_some _ e
    · rw [List.getElem?_map] at h1 h2
      cases hj : out[j]? with
      | none => rw [hj] at h1; cases h1
      | some v =>
        rw [hj] at h1 h2
        obtain ⟨t', p', rfl, _, e3⟩ := kk v (hmem v (List.mem_of_getElem? hj))
        cases h1
        cases h2
        rw [kO e3]
        exact e3
    · rw [← ep']
      exact hb.perm.map _
    · exact List.pairwise_map.mpr hs
end
end DP
/-! DP: set(texts), any number of them (the worked proof of HandS.Strs for one text, turned to more). -/
namespace DP
open PySem L2 PySem.Spec PyProof.Rows
/-- what is met first, of the first i texts -/
def dd (xs : List Str) : Nat → List Str
  | 0 => []
  | i + 1 => if (dd xs i).any (· == xs.getD i Str.empty) then dd xs i else dd xs i ++ [xs.getD i Str.empty]
theorem dd_le (xs : List Str) : ∀ i, (dd xs i).length ≤ i
  | 0 => Nat.le_refl _
  | i + 1 => by
    have := dd_le xs i
    unfold dd
    split
    · omega
    · rw [List.length_append, List.length_singleton]; omega
theorem dd_any (xs : List Str) (i : Nat) (k : Str) : (dd xs (i + 1)).any (· == k) = ((dd xs i).any (· == k) || decide (k = xs.getD i Str.empty)) := by
  rw [dd]
  by_cases h : (dd xs i).any (· == xs.getD i Str.empty) = true
  · rw [if_pos h]
    by_cases e : k = xs.getD i Str.empty
    · subst e; rw [h]; rfl
    · rw [decide_eq_false e, Bool.or_false]
  · rw [if_neg h, List.any_append]
    congr 1
    show ((xs.getD i Str.empty == k) || false) = _
    rw [Bool.or_false]
    by_cases e : k = xs.getD i Str.empty
    · subst e; simp
    · rw [decide_eq_false e]
      exact beq_eq_false_iff_ne.mpr (Ne.symm e)
theorem dd_len (xs : List Str) (i : Nat) : (dd xs (i + 1)).length = if (dd xs i).any (· == xs.getD i Str.empty) then (dd xs i).length else (dd xs i).length + 1 := by
  rw [dd]
  split
  · rfl
  · rw [List.length_append, List.length_singleton]
section
variable {prog : Program} {w : World} {A : Around} {R : Result → Shared → Prop} {I : Addr} {fp wr : List Addr} {G : Array GenState → Array GenState → Prop} {n : Nat} {P : Nat → Value → Prop} {St : Nat → Shared → Prop}
theorem set_loop (W : WalksS prog w A.in1 I fp wr G n P St) (S : Addr) (hSf : S ∉ fp) (xs : List Str) (hsz : xs.length = n) (hn1 : n + 1 < scanBound)
    (hval : ∀ i v, P i v → ∃ t, v = .str (xs.getD i Str.empty) t) :
    ∀ (k i : Nat) (s : Shared), n - i = k → i ≤ n → St i s →
      s.heap.SetOf (PySem.strKind prog w) S (fun k' => (dd xs i).any (· == k')) (dd xs i).length →
      (∀ s', Moved (S :: wr) G s s' → s'.heap.SetOf (PySem.strKind prog w) S (fun k' => (dd xs n).any (· == k')) (dd xs n).length → R (.ok (.ret .none)) s') →
      codeAny (model prog w) A (.builtin "set.update.loop" ⟨[.ref S, .ref I], []⟩) R s := by
  have hSw : S ∉ wr := fun h => hSf (W.sub _ h)
  have hsub : ∀ b ∈ wr, b ∈ S :: wr := fun b hb => List.mem_cons_of_mem _ hb
  intro k
  induction k with
  | zero =>
    intro i s hk hi hst hS hR
    have hin : i = n := by omega
    subst hin
    refine codeAny_builtin PyProof.Rows.F.entry_set_update_loop ?_
    rw [Around.under_plainId PyProof.Rows.F.plain_set_update_loop _]
    show wpAny _ A.in1 (pyNext (.ref I) >>= _) _ _ s
    refine wpAny_bind (W.done s _ _ hst fun s' hm => ?_)
    show wpAny _ A.in1 (ret Value.none) _ _ s'
    exact wpAny_pure (hR s' (hm.mono hsub) (by
      obtain ⟨o, es, ep, t, ho, rest⟩ := hS
      exact ⟨o, es, ep, t, hm.heap S _ hSw ho, rest⟩))
  | succ k ih =>
    intro i s hk hi hst hS hR
    have hlt : i < n := by omega
    have hroom : (dd xs i).length + 1 < scanBound := by have := dd_le xs i; omega
    refine codeAny_builtin PyProof.Rows.F.entry_set_update_loop ?_
    rw [Around.under_plainId PyProof.Rows.F.plain_set_update_loop _]
    show wpAny _ A.in1 (pyNext (.ref I) >>= _) _ _ s
    refine wpAny_bind (W.item i s _ _ hlt hst fun v s' hP hst' hm => ?_)
    obtain ⟨t, rfl⟩ := hval i v hP
    have hS' : s'.heap.SetOf (PySem.strKind prog w) S (fun k' => (dd xs i).any (· == k')) (dd xs i).length := by
      obtain ⟨o, es, ep, tb, ho, rest⟩ := hS
      exact ⟨o, es, ep, tb, hm.heap S _ hSw ho, rest⟩
    show wpAny _ A.in1 (holding [Value.str (xs.getD i Str.empty) t] (setAdd S (.str (xs.getD i Str.empty) t)) >>= _) _ _ s'
    refine wpAny_bind (wpAny_holding ?_)
    unfold setAdd
    refine wpAny_holding ?_
    refine wpAny_bind ((PySem.strKind prog w).pyHash (k := xs.getD i Str.empty) (strKind_is _ _ _ _) ?_)
    refine wpAny_setAddHashed_of (knd := PySem.strKind prog w) (s := { s' with toks := s'.toks + 1 }) (strKind_is _ _ _ _) rfl hS' hroom fun h' hsb hS2 => ?_
    have hSi : h'.SetOf (PySem.strKind prog w) S (fun k' => (dd xs (i + 1)).any (· == k')) (dd xs (i + 1)).length :=
      PyProof.Rows.SetOf_congr hS2 (fun k' => (dd_any xs i k').symm) (dd_len xs i).symm
    refine wpAny_pure ⟨plainId_quiet PyProof.Rows.F.plain_set_update_loop _, ih (i + 1) _ (by omega) hlt (W.frame _ s' _ _ hst' (Nat.le_succ _) fun b hb o e => ?_) hSi fun s'' hm'' hS'' => ?_⟩
    · rw [hsb.2 b (fun h : b = S => hSf (by rw [← h]; exact hb))]; exact e
    · refine hR s'' (Moved.trans W.gtrans ((hm.mono hsub).then_heap (Nat.le_succ _) fun b o hb e => ?_) hm'') hS''
      rw [hsb.2 b (fun h : b = S => hb (by rw [h]; exact List.mem_cons_self))]; exact e
end
section
variable {prog : Program} {w : World} {A : Around} {E : Value → Shared → Prop} {s : Shared}
set_option maxHeartbeats 6400000 in
theorem call_set_texts {l : Addr} {items : Array Value} {xs : List Str} {Q : Value → Shared → Prop}
    (hh : A.handled = none) (hl : s.heap.IsList l items) (hi : PyProof.Rows.StrsAre items.toList xs) (hn1 : xs.length + 1 < scanBound)
    (h : ∀ (h' : Heap) (tk : Nat), h'.SetOf (PySem.strKind prog w) s.heap.objs.size (fun k' => (dd xs items.size).any (· == k')) (dd xs items.size).length →
      (∀ b o, b < s.heap.objs.size → s.heap.get? b = some o → h'.get? b = some o) → Q (.ref s.heap.objs.size) { s with heap := h', toks := tk }) :
    wpAny (model prog w) A (call (.type "set") [.ref l]) Q E s := by
  obtain ⟨c, tl, hmro⟩ := PySem.F.called_set.mro
  have hmade := PySem.F.called_set.made
  have hsub := PySem.F.called_set.sub
  refine wpAny_call (codeAny_of_tree ?_)
  show wpAny _ _ (callAny (.type "set") _) _ _ _
  refine wpAny_pure ⟨Code.quiet_builtin _ (by decide +kernel), codeAny_builtin PySem.F.entry_type_call ?_⟩
  rw [Around.under_plain (weight_type_call_type "set" [.ref l] []) rfl]
  have h1 := PySem.F.called_set.notType
  have h2 := PySem.F.called_set.canCreate
  have hct := PySem.F.typeCall_set_1 (.ref l)
  repeat (any_goals (first | assumption | wp_step))

  refine codeAny_mono (code_set_new_1 (.ref l) (E := E) (Q₁ := fun obj s₁ => ∃ led : Bool, obj = .ref s.heap.objs.size ∧ s₁ = { s with heap := s.heap.push { cls := .type "set", dict := none, data := .set #[] 0 (.fresh 0 0 led) } }) fun led => ⟨led, rfl, rfl⟩) fun r s₁ hr => ?_
  cases r with
  | error e => exact hr
  | ok fl =>
    cases fl with
    | ret obj =>
      obtain ⟨led, rfl, rfl⟩ := hr
      have hS : (s.heap.push { cls := .type "set", dict := none, data := .set #[] 0 (.fresh 0 0 led) }).get? s.heap.objs.size = some { cls := .type "set", dict := none, data := .set #[] 0 (.fresh 0 0 led) } := Heap.get?_push_size _ rfl
      have hT : Shared.TypeIs { s with heap := s.heap.push { cls := .type "set", dict := none, data := .set #[] 0 (.fresh 0 0 led) } } (.ref s.heap.objs.size) "set" := ⟨_, hS, rfl⟩
      have hli := PySem.F.called_set.init.lookup
      have hbi := PySem.F.called_set.init.bind (.ref s.heap.objs.size)
      repeat (any_goals (first | assumption | wp_step))

      refine codeAny_mono (codeAny_call_builtin (R := wants (fun r s₂ => r = .none ∧ ∃ h' tk, s₂ = { s with heap := h', toks := tk } ∧
          h'.SetOf (PySem.strKind prog w) s.heap.objs.size (fun k' => (dd xs items.size).any (· == k')) (dd xs items.size).length ∧
          (∀ b o, b < s.heap.objs.size → s.heap.get? b = some o → h'.get? b = some o)) E) PySem.F.called_set.init.plain PySem.F.entry_set_init (check_set_init_1 hT ?_)) fun r₂ s₂ hr₂ => ?_
      · obtain ⟨ol, hol, hcl, nl, hdl⟩ := hl
        obtain ⟨ocls, odict, odata, oslots⟩ := ol
        simp only at hcl hdl
        subst hcl; subst hdl
        have hol' : (s.heap.push { cls := .type "set", dict := none, data := .set #[] 0 (.fresh 0 0 led) }).get? l = some { cls := .type "list", dict := odict, data := .seq items nl, slots := oslots } := Heap.get?_push_of_some _ hol
        have hsls := PySem.F.sub_list_set
        have hslf := PySem.F.sub_list_frozenset
        have hne : (Value.type "list" == Value.type "dict") = false := by decide
        have hl1 : (s.heap.push { cls := .type "set", dict := none, data := .set #[] 0 (.fresh 0 0 led) }).IsList l items := ⟨_, hol', rfl, nl, rfl⟩
        unfold Builtin.«set.__init__» noKeywords Builtin.Frozenset.updateFrom
        generalize hPI : pyIter = PI
        wp_walk
        subst hPI

        refine wpAny_pyIter_list hl1 ?_
        refine wpAny_bind (wpAny_runValue ?_)
        have hlS : l < s.heap.objs.size := Heap.lt_size hol
        have hh3 : A.in1.in1.in1.handled = none := by simp [hh]
        have hneI : l ≠ (s.heap.push { cls := .type "set", dict := none, data := .set #[] 0 (.fresh 0 0 led) }).objs.size := by
          rw [Heap.size_push]; exact Nat.ne_of_lt (Nat.lt_succ_of_lt hlS)
        have hSf : s.heap.objs.size ∉ [(s.heap.push { cls := .type "set", dict := none, data := .set #[] 0 (.fresh 0 0 led) }).objs.size, l] := by
          rw [Heap.size_push]; simp only [List.mem_cons, List.mem_singleton, List.not_mem_nil, or_false, not_or]
          exact ⟨Nat.ne_of_lt (Nat.lt_succ_self _), Nat.ne_of_gt hlS⟩
        have hsz : xs.length = items.size := by rw [← StrsAre.len_eq hi, Array.length_toList]
        have hval : ∀ (i : Nat) (v : Value), items[i]? = some v → ∃ t, v = .str (xs.getD i Str.empty) t := fun i v hv => SS.strs_at hi i v (by rw [Array.getElem?_toList]; exact hv)
        refine set_loop ((Walks.list hh3 _ l hneI items).toS) s.heap.objs.size
          hSf xs hsz (by rw [← hsz]; exact hn1) hval (items.size - 0) 0 _ (by omega) (Nat.zero_le _)
          ⟨⟨_, Heap.get?_push_size _ rfl, rfl, rfl⟩, (hl1.push _)⟩ ?hS0 ?hR
        case hS0 =>
          have hget : ((s.heap.push { cls := .type "set", dict := none, data := .set #[] 0 (.fresh 0 0 led) }).push { cls := .type "list_iterator", data := .fields #[.ref l, .int 0 0] }).get? s.heap.objs.size
              = some { cls := .type "set", dict := none, data := .set #[] 0 (.fresh 0 0 led) } := Heap.get?_push_of_some _ hS
          exact PyProof.Rows.SetOf_congr ((PyProof.Rows.setObjOf_fresh (knd := PySem.strKind prog w) led).setOf hget (by unfold scanBound; omega)) (fun _ => rfl) rfl
        case hR =>
          intro s' hm hS'
          obtain ⟨h', g', d', tk', os'⟩ := s'
          have eg : g' = s.gens := hm.gens
          have ed : d' = s.drawn := hm.drawn
          have eo : os' = s.os := hm.os
          subst eg; subst ed; subst eo
          show wpAny _ _ _ _ _ _
          refine wpAny_pure ?_
          show wpAny _ _ (ret Value.none) _ _ _
          refine wpAny_pure ⟨rfl, h', tk', rfl, hS', fun b o hb e => ?_⟩
          have hb1 : b ≠ s.heap.objs.size := Nat.ne_of_lt hb
          have hb2 : b ≠ (s.heap.push { cls := .type "set", dict := none, data := .set #[] 0 (.fresh 0 0 led) }).objs.size := by
            rw [Heap.size_push]; exact Nat.ne_of_lt (Nat.lt_succ_of_lt hb)
          exact hm.heap b o (by simp only [List.mem_cons, List.mem_singleton, List.not_mem_nil, or_false, not_or]; exact ⟨hb1, hb2⟩) (Heap.get?_push_of_some _ (Heap.get?_push_of_some _ e))

      · cases r₂ with
        | error e => exact hr₂
        | ok fl₂ =>
          cases fl₂ with
          | ret r =>
            obtain ⟨rfl, h', tk, rfl, hS', hk'⟩ := hr₂
            repeat (any_goals (first | assumption | wp_step))
            exact h _ _ hS' hk'
          | _ => exact hr₂.elim
    | _ => exact hr.elim

end
end DP
/-! DP: sorted, len(set(..)), enumerate, reversed, range(a, b), fields stored. -/
namespace DP
open PySem L2 PySem.Spec PyProof.Rows
/-! ### pairs in order -/
def insP (x : Int × Int) : List (Int × Int) → List (Int × Int)
  | [] => [x]
  | y :: r => if SrtO.lexB y x then y :: insP x r else x :: y :: r
def sortP : List (Int × Int) → List (Int × Int)
  | [] => []
  | x :: r => insP x (sortP r)
theorem insP_perm (x : Int × Int) : ∀ l, (insP x l).Perm (x :: l)
  | [] => List.Perm.refl _
  | y :: r => by
    unfold insP
    split
    · exact ((insP_perm x r).cons y).trans (List.Perm.swap x y r)
    · exact List.Perm.refl _
theorem sortP_perm : ∀ l, (sortP l).Perm l
  | [] => List.Perm.refl _
  | x :: r => (insP_perm x (sortP r)).trans ((sortP_perm r).cons x)
abbrev leP (x y : Int × Int) : Prop := SrtO.lexB y x = false
theorem leP_tr {x y z : Int × Int} (h : leP x y) (k : leP y z) : leP x z := by
  have a := SrtO.lexB_no.mp h
  have b := SrtO.lexB_no.mp k
  exact SrtO.lexB_no.mpr (by omega)
theorem insP_srt (x : Int × Int) : ∀ {l}, l.Pairwise leP → (insP x l).Pairwise leP
  | [], _ => List.pairwise_singleton _ _
  | y :: r, h => by
    rw [List.pairwise_cons] at h
    unfold insP
    split
    · rename_i c
      refine List.pairwise_cons.mpr ⟨fun z m => ?_, insP_srt x h.2⟩
      rcases List.mem_cons.mp ((insP_perm x r).mem_iff.mp m) with m | m
      · rw [m]
        have a := SrtO.lexB_iff.mp c
        exact SrtO.lexB_no.mpr (by omega)
      · exact h.1 z m
    · rename_i c
      have c : leP x y := by simpa using c
      refine List.pairwise_cons.mpr ⟨fun z m => ?_, List.pairwise_cons.mpr h⟩
      rcases List.mem_cons.mp m with m | m
      · rw [m]; exact c
      · exact leP_tr c (h.1 z m)
theorem sortP_srt : ∀ l, (sortP l).Pairwise leP
  | [] => List.Pairwise.nil
  | x :: r => insP_srt x (sortP_srt r)
theorem sortP_uniq {l m : List (Int × Int)} (p : l.Perm m) (h : l.Pairwise leP) : l = sortP m :=
  List.Perm.eq_of_pairwise (le := leP) (fun a b _ _ h1 h2 => by
    have a1 := SrtO.lexB_no.mp h1
    have a2 := SrtO.lexB_no.mp h2
    exact Prod.ext (by omega) (by omega)) h (sortP_srt m) (p.trans (sortP_perm m).symm)
/-! ### sorted(d) -/
def pairK : List (List L2.Key) → Option (List (Int × Int))
  | [] => some []
  | [.inl i, .inl j] :: r => (pairK r).map ((i, j) :: ·)
  | _ :: _ => none
theorem pairK_some : ∀ {ks : List (List L2.Key)} {ps : List (Int × Int)}, pairK ks = some ps → ks = ps.map kyP := by
  intro ks
  induction ks with
  | nil => intro ps h; cases h; rfl
  | cons k r ih =>
    intro ps h
    unfold pairK at h
    split at h
    · rename_i h1; cases h1
    · rename_i i j r' h1
      cases h1
      cases q : pairK r with
      | none => rw [q] at h; cases h
      | some qs =>
        rw [q] at h; cases h
        rw [ih q]; rfl
    · cases h
theorem pairK_map : ∀ ps : List (Int × Int), pairK (ps.map kyP) = some ps
  | [] => rfl
  | (i, j) :: r => by
    show (pairK (r.map kyP)).map ((i, j) :: ·) = _
    rw [pairK_map r]; rfl
abbrev tupP (p : Int × Int) : D := .tup [.int p.1, .int p.2]
def oSorted : Sv → Option Sv := fun p => match p with
  | (n, .dT ks _) => if n ≤ 1 then (pairK ks).map fun ps => ((1, .lst ((sortP ps).map tupP)) : Sv) else none
  | _ => none
section
variable {X : Cx} {W : WX} {K : Fg} {J : List Nat} {F0 H0 F H F1 H1 F2 H2 : Hp} {σ : L2.St} {env : Env} {f g : Env → M Sv} {gs : Env → M (List Sv)} {a b : Expr} {pos : Pos}
theorem RpL.tups {F : Hp} : ∀ {ts : List Addr} {qs : List (Int × Int)}, ts.length = qs.length → (∀ (j : Nat) (t : Addr) (q : Int × Int), ts[j]? = some t → qs[j]? = some q → F t = some (.tup [.int q.1, .int q.2])) → RpL K F (qs.map tupP) (ts.map V.ref)
  | [], [], _, _ => rfl
  | [], _ :: _, h, _ => by cases h
  | _ :: _, [], h, _ => by cases h
  | t :: ts, q :: qs, h, k => ⟨.ref t, _, rfl, ⟨t, _, rfl, k 0 t q rfl rfl, .int q.1, _, rfl, rfl, .int q.2, _, rfl, rfl, rfl⟩, RpL.tups (Nat.succ.inj h) fun j t' q' h1 h2 => k (j + 1) t' q' h1 h2⟩
/-- tuples that are tracked are frozen -/
theorem frz_tups {ts : List Addr} (e : Ex F H) (h : ∀ t ∈ ts, ∃ us, H t = some (.tup us)) : Gr F H (frz F H ts) H := by
  refine ⟨fun a o q => ?_, Ex.rfl' _, frz_fh e, fun a o q n => ?_⟩
  · by_cases m : a ∈ ts
    · rw [frz_in m]; exact e a o q
    · rw [frz_out m]; exact q
  · by_cases m : a ∈ ts
    · obtain ⟨us, hu⟩ := h a m
      rw [hu] at q
      cases q
      exact absurd rfl (n us)
    · rw [frz_out m]
theorem vSorted : VRC K rSortedDT (c1 oSorted) := by
  refine vC1 fun F H v n d fp z Q e w h k => ?_
  cases d <;> first | (cases h; done) | skip
  rename_i ks ds
  have h' : (if n ≤ 1 then (pairK ks).map fun ps => ((1, .lst ((sortP ps).map tupP)) : Sv) else none) = some z := h
  by_cases c : n ≤ 1
  · rw [if_pos c] at h'
    cases q : pairK ks with
    | none => rw [q] at h'; cases h'
    | some ps =>
      rw [q] at h'; cases h'
      obtain ⟨a, ws, rfl, h2, h3⟩ := w.dT e c
      refine ⟨a, ws, ps, rfl, .inl h2, by rw [h3.1]; exact pairK_some q, fun ts qs p hl hk hp hs hn => ?_⟩
      have eq := sortP_uniq hp hs
      subst eq
      have ht : ∀ t ∈ ts, ∃ us, H t = some (.tup us) := fun t m => by
        obtain ⟨j, hj⟩ := List.getElem?_of_mem m
        have hj2 : j < (sortP ps).length := by rw [← hl]; exact (List.getElem?_eq_some_iff.mp hj).1
        exact ⟨_, hk j t _ hj (List.getElem?_eq_getElem hj2)⟩
      have g := frz_tups e ht
      have rl : RpL K (frz F H ts) ((sortP ps).map tupP) (ts.map V.ref) := RpL.tups hl fun j t q h1 h2 => by
        rw [frz_in (List.mem_of_getElem? h1)]; exact hk j t q h1 h2
      exact (k.on g).newL g.fh rl hn
  · rw [if_neg c] at h'; cases h'
/-! ### len(set(texts)) -/
def tLenSetT (K : Fg) (ta : TE) : TE := fun σ H Q => ta σ H fun x H1 => ∃ (l : Addr) (xs : List Str), x = .ref l ∧ SqL K H1 l (xs.map V.str) ∧ xs.length ≤ 4000 ∧ Q (.int ((dd xs xs.length).length : Nat)) H1
theorem pe_lenSetT {ta : TE} {p p2 q : Pos} (hc : X.calm = true) (hg : Gl X "len") (hm : X.mg "len" = none) (hg2 : Gl X "set") (hm2 : X.mg "set" = none) (ha : PE X a ta)
    (na : starEach [a] X.env = (false, eval a X.env) :: starEach [] X.env := by rfl) : PE X (.Call (.Name "len" p) [.Call (.Name "set" p2) [a] [] q] [] pos) (tLenSetT X.K ta) := by
  refine ⟨fun pins s σ H Q I h => Call_ (ld_blt I hg hm boot_len (PyProof.Rows.callWith_builtin1 (PyProof.Rows.args_cons ?_ rfl) rfl rfl))⟩
  refine Call_ (ld_blt I hg2 hm2 boot_set (PyProof.Rows.callWith_type1 (PyProof.Rows.args_cons (thn (ha.run pins s σ H _ I h) fun v s1 ⟨x, H1, I1, r1, l, xs, ex, hq, h1, q1⟩ => PyProof.Rows.args_nil ?_) na) na rfl))
  subst ex
  cases r1
  obtain ⟨its, r, pl, hz⟩ := I1.list hq
  have hi : StrsAre its.toArray.toList xs := by simpa using strsAre_of r
  refine call_set_texts (I1.ok.hd hc) pl.isList hi (by unfold scanBound; omega) fun h' tk hS hk => PyProof.Rows.args_nil ?_
  have hl : its.toArray.size = xs.length := by rw [List.size_toArray, ← r.length, List.length_map]
  rw [hl] at hS
  have hle := dd_le xs xs.length
  obtain ⟨o, es, ep, t, ho, hex, hd, _, _, _, hf, hn⟩ := hS
  have I2 : Inv X pins σ H1 { s1 with heap := h', toks := tk } := I1.kept fun b o e => hk b o (Heap.lt_size e) e
  exact call_len_set ho hex hd hf (by rw [hn]; omega) ⟨.int ((dd xs xs.length).length : Nat), H1, I2.tok _, ⟨_, by rw [hn]⟩, q1⟩
def oLenSet : Sv → Option Sv := fun p => match p with
  | (n, .lst ds) => if n ≤ 1 then (txs ds).bind fun xs => if xs.length ≤ 4000 then some ((0, .int ((dd xs xs.length).length : Nat)) : Sv) else none else none
  | _ => none
theorem pd_lenSet {p p2 q : Pos} (hc : X.calm = true) (hg : Gl X "len") (hm : X.mg "len" = none) (hg2 : Gl X "set") (hm2 : X.mg "set" = none) (ha : PE X a (tW X.K W f))
    (na : starEach [a] X.env = (false, eval a X.env) :: starEach [] X.env := by rfl) : PE X (.Call (.Name "len" p) [.Call (.Name "set" p2) [a] [] q] [] pos) (tD X.K W (f1 oLenSet f)) := PE.imp (pe_lenSetT hc hg hm hg2 hm2 ha na) fun σ H Q ⟨F0, H0, F, env, s, o⟩ => by
  have o : Out (f1 oLenSet f env) (EvOk X.K F H Q) (ExOk X.K F H W σ) := o
  refine tW.out s (Out.imp o.bd (fun x ox => ?_) fun _ k => k)
  obtain ⟨z, ez, kz⟩ := ox.lf
  intro v F1 H1 fp g1 w1
  obtain ⟨n, d⟩ := x
  cases d <;> first | (cases ez; done) | skip
  rename_i ds
  have ez2 : (if n ≤ 1 then (txs ds).bind fun xs => if xs.length ≤ 4000 then some ((0, .int ((dd xs xs.length).length : Nat)) : Sv) else none else none) = some z := ez
  by_cases c : n ≤ 1
  · rw [if_pos c] at ez2
    obtain ⟨xs, e1, e2⟩ := Option.bind_eq_some_iff.mp ez2
    by_cases c2 : xs.length ≤ 4000
    · rw [if_pos c2] at e2
      cases e2
      obtain ⟨l, vs, rfl, h2, h3⟩ := w1.lst g1.fh c
      rw [txs_some e1] at h3
      have ev : vs = xs.map V.str := by
        clear h2 e1 c2 kz ez ez2 w1
        induction xs generalizing vs with
        | nil => exact h3
        | cons x r ih =>
          obtain ⟨v, r', e1, e2, e3⟩ := h3
          rw [e1, ih r' e3, show v = V.str x from e2]
          rfl
      rw [ev] at h2
      exact ⟨l, xs, rfl, SqL.of h2, c2, kz.z g1 rfl⟩
    · rw [if_neg c2] at e2; cases e2
  · rw [if_neg c] at ez2; cases ez2
/-! ### enumerate, reversed, range(a, b) -/
def enD (ds : List D) : List D := ds.zipIdx.map fun p => .tup [.int (p.2 : Nat), p.1]
theorem enD_len (ds : List D) : (enD ds).length = ds.length := by unfold enD; rw [List.length_map, List.length_zipIdx]
theorem enD_get {ds : List D} {i : Nat} {d : D} (h : (enD ds)[i]? = some d) : ∃ e, ds[i]? = some e ∧ d = .tup [.int (i : Nat), e] := by
  unfold enD at h
  rw [List.getElem?_map, List.getElem?_zipIdx] at h
  cases q : ds[i]? with
  | none => rw [q] at h; cases h
  | some e =>
    rw [q] at h
    cases h
    exact ⟨e, rfl, by rw [Nat.zero_add]⟩
theorem Wk.enm {l : Addr} {ds : List D} {vs : List V} (h : SqL K F l vs) (r : RpL K F ds vs) : Wk K F (Ite K l) (enD ds) where
  go := fun i F2 H2 e1 e2 hi => by
    rw [enD_len] at hi
    obtain ⟨v, hv, _⟩ := r.get (List.getElem?_eq_getElem hi)
    exact ⟨vs, v, e2.sqL (e1.sqL h), hv⟩
  stop := fun i F2 H2 e1 e2 hi => ⟨vs, e2.sqL (e1.sqL h), by rw [← r.len, ← enD_len ds]; exact hi⟩
  yld := fun i F2 H2 x H3 d e1 e2 hd y => by
    obtain ⟨T, u, rfl, hT, rfl, hx⟩ := y
    obtain ⟨e, he, rfl⟩ := enD_get hd
    obtain ⟨v, hv, rv⟩ := r.get he
    have z := hx vs (e2.sqL (e1.sqL h))
    have z : u = v := Option.some.inj (z.symm.trans hv)
    subst z
    have g := Gr.frz (o := .tup [.int (i : Nat), u]) e2 hT
    exact ⟨_, g, T, _, rfl, upd_same, .int (i : Nat), _, rfl, rfl, u, _, rfl, (rv.mono e1).mono g.ff, rfl⟩
def asEn (x : Sv) : M (List D) := match x.2 with | .lst ds => M.ok (enD ds) | .sl ds => M.ok (enD ds) | _ => M.no
theorem pi_en {tpos p : Pos} {elts : List Expr} {kk : Nat} (hg : Gl X "enumerate") (hm : X.mg "enumerate" = none) (ha : PE X a (tD X.K W f)) (hs : starEach [a] X.env = [(false, eval a X.env)] := by rfl) (hs2 : starEach [a] X.env = (false, eval a X.env) :: starEach [] X.env := by rfl) :
    PI X (.Tuple elts kk tpos) (.Call (.Name "enumerate" p) [a] [] pos) (tI X.K W (fSeq asEn f)) := PI.imp (pi_enum hg hm (pd_cons ha pd_nil hs2) hs) fun σ H R ⟨F0, H0, F, env, s, o⟩ => by
  have o : Out (bd (f env) asEn) (fun ds => ∀ J F' H', Gr F H F' H' → Wk X.K F' J ds → R J H') (ExOk X.K F H W σ) := o
  rcases o with ⟨ds, e, k⟩ | ⟨ex, e, k⟩
  · rcases bd_cases e with ⟨⟨n, d⟩, e1, e2⟩ | ⟨_, _, e2⟩
    · refine ⟨F0, H0, F, env, s, .inl ⟨[(n, d)], by show bd (f env) _ = _; rw [e1]; rfl, fun vs F1 H1 fp g1 w1 nd nw => ?_⟩⟩
      obtain ⟨v, r, f1, f2, rfl, rfl, ow, rfl, rfl⟩ := w1
      obtain ⟨g2, r2⟩ := g1.fz (fp := f1) ow fun a m => nw a (List.mem_append_left _ m)
      cases d <;> first | (cases e2; done) | skip
      · cases e2
        obtain ⟨l, vs, rfl, h2, h3⟩ := r2
        exact ⟨l, vs, rfl, SqL.of (g2.fh _ _ h2), k _ _ H1 g2 (Wk.enm (.inl (.inl h2)) h3)⟩
      · cases e2
        obtain ⟨l, vs, rfl, h2, h3⟩ := r2
        exact ⟨l, vs, rfl, g2.fh.sqL h2, k _ _ H1 g2 (Wk.enm h2 h3)⟩
    · cases e2
  · rcases bd_cases e with ⟨⟨n, d⟩, e1, e2⟩ | ⟨z, e1, e2⟩
    · cases d <;> cases e2
    · cases e2
      exact ⟨F0, H0, F, env, s, .inr ⟨_, by show bd (f env) _ = _; rw [e1]; rfl, k⟩⟩
end
end DP
/-! DP: fields stored, tests over what changes, a dict's keys. -/
namespace DP
open PySem L2 PySem.Spec PyProof.Rows
section
variable {X : Cx} {W : WX} {K : Fg} {J : List Nat} {F0 H0 F H F1 H1 F2 H2 : Hp} {σ : L2.St} {env : Env} {f g : Env → M Sv} {gs : Env → M (List Sv)} {a b : Expr} {pos : Pos}
/-! ### self.x = v, x new -/
def stFld (C : Addr) (x : Str) (o z : Sv) : Option Sv := match o with
  | (n + 1, .ins C' fs ds) => if C' = C ∧ z.1 = n ∧ fs.length < 1000 ∧ (fs.all fun y => !(y == x)) = true then some (n + 1, .ins C (fs ++ [x]) (ds ++ [z.2])) else none
  | _ => none
def uFld (C : Addr) (i : Nat) (x : Str) (f : Env → M Sv) (env : Env) : MU := mB (f env) env fun z => mP (vl (env[i]?)) fun o => mP (lf (stFld C x o z)) fun o' => some (.ok (.non, env.set i (some o')))
theorem putF_new {x : Str} {v : V} : ∀ {ws : List (Str × V)}, ((ws.map (·.1)).all fun y => !(y == x)) = true → putF x v ws = ws ++ [(x, v)]
  | [], _ => rfl
  | (y, u) :: r, h => by
    rw [List.map_cons, List.all_cons, Bool.and_eq_true] at h
    have hn : ¬ y = x := fun e => by
      rw [e, beq_self_eq_true] at h
      exact absurd h.1 (by simp)
    show (if y = x then (y, v) :: r else (y, u) :: putF x v r) = _
    rw [if_neg hn, putF_new h.2]
    rfl
theorem sd_fld {C : Addr} {i : Nat} {y x : Str} {p p' : Pos} (c : Cls X.K C) (n : NoAttr X.K C x) (ho : PE X (.Name y p) (tVar i)) (he : PE X a (tD X.K W f)) (hs : swapsWith a (some (.Attribute (.Name y p) x p')) pos.line X.env = pure false := by rfl) :
    PS X (.Assign [.Attribute (.Name y p) x p'] a pos) (tS X.K W J (gU (uFld C i x f))) := PS.imp (ps_fld ho he hs) fun Dn σ H ⟨F0, H0, F, env, r, s, e, k⟩ => by
  have k2 : ∃ r2, uFld C i x f env = some r2 ∧ UOk X.K F0 H0 F W σ (fun _ H' => Dn.nx σ H') r2 := by
    rcases gU_some e with ⟨x, e1, e2⟩ | ⟨x, e1, e2⟩
    · subst e2
      exact ⟨_, e1, fun v F' H' x' s' _ => k σ F' H' x' s' KpJ.rfl'⟩
    · subst e2
      exact ⟨_, e1, fun cls dd F' H' x' s' r' => k cls dd σ F' H' x' s' KpJ.rfl' r'⟩
  obtain ⟨r2, q, k⟩ := k2
  rcases mB_some q with ⟨⟨nz, z⟩, ez, q⟩ | ⟨e, ez, er⟩
  · obtain ⟨⟨m, od⟩, eo, q⟩ := mP_some q
    have eo := vl_ok eo
    obtain ⟨o', est, q⟩ := mP_lf q
    cases q
    cases m with
    | zero => cases est
    | succ m =>
      cases od with
      | ins C' fs ds =>
        have est2 : (if C' = C ∧ nz = m ∧ fs.length < 1000 ∧ (fs.all fun y => !(y == x)) = true then some ((m + 1, .ins C (fs ++ [x]) (ds ++ [z])) : Sv) else none) = some o' := est
        by_cases cc : C' = C ∧ nz = m ∧ fs.length < 1000 ∧ (fs.all fun y => !(y == x)) = true
        · rw [if_pos cc] at est2
          cases est2
          obtain ⟨rfl, rfl, c3, c4⟩ := cc
          refine tD.go s ez fun v F1 H1 fq g1 oz nd nw => ?_
          refine s.mut g1 eo fun u fp hv ow ndp ht up => ?_
          obtain ⟨ad, o, r, h1, h2, h3, h4, h5⟩ := ow
          subst h4
          cases o with
          | ins C2 dx ws =>
            obtain ⟨h6, h7, h8⟩ := h5
            subst h6
            subst h1
            rw [List.nodup_cons] at ndp
            have na : ad ∉ fq := fun m => (ht ad List.mem_cons_self).2 (nw ad m)
            refine ⟨_, hv, ad, C2, dx, ws, rfl, h3, c, n, by rw [← h7, List.length_map] at c3; exact c3, ?_⟩
            have hz : Ex F1 (upd H1 ad (.ins C2 dx (putF x v ws))) := fun b o e => by
              rw [upd_ne (fun e' => by subst e'; rw [h2] at e; cases e)]; exact (s.on g1).fh b o e
            refine k .non F1 _ g1.ff (up F1 _ _ _ (ad :: (r ++ fq)) (Ex.rfl' _) hz ⟨ad, _, _, rfl, h2, upd_same, rfl, ?_⟩ ?_ ?_ ?_) rfl
            · rw [putF_new (by rw [h7]; exact c4)]
              refine ⟨rfl, by rw [List.map_append, h7]; rfl, ?_⟩
              rw [List.map_append]
              exact OwL.snoc (oz.stay fun b m o e => by rw [upd_ne (fun e => na (by rw [← e]; exact m))]; exact e) (OwL.cong (fun _ _ _ _ z w => w.stay fun b m o e => by rw [upd_ne (fun e => ndp.1 (by rw [← e]; exact z b m))]; exact e) h8)
            · rw [List.nodup_cons, List.nodup_append]
              refine ⟨fun m => (List.mem_append.mp m).elim ndp.1 na, ndp.2, nd, fun b mb c mc e => ?_⟩
              subst e
              exact (ht b (List.mem_cons_of_mem _ mb)).2 (nw b mc)
            · intro b m
              rcases List.mem_cons.mp m with m | m
              · exact .inl (by rw [m]; exact List.mem_cons_self)
              · rcases List.mem_append.mp m with m | m
                · exact .inl (List.mem_cons_of_mem _ m)
                · exact .inr (nw b m)
            · intro b o m e
              rw [upd_ne (fun e => m (by rw [e]; exact List.mem_cons_self))]
              exact ⟨e, fun _ => rfl⟩
          | _ => exact h5.elim
        · rw [if_neg cc] at est2; cases est2
      | _ => cases est
  · subst er
    exact tD.ex s ez (UOk.er s k)
/-! ### if U != b: .. -/
def gIfU (op : Sv → Sv → Option Sv) (u : Env → MU) (g : Env → M Sv) (g1 g2 : Gs) : Gs := fun env => match u env with
  | none => none
  | some (.error x) => some (.er x.1 x.2)
  | some (.ok x) => gM (bd (g x.2) fun y => bd (lf (op (0, x.1) y)) asB) x.2 fun k => if k then g1 x.2 else g2 x.2
theorem sd_ifU {op : CmpOp} {r : R2} {fn : Sv → Sv → Option Sv} {u : Env → MU} {g1 g2 : Gs} {as bs : List Stmt} {pos' : Pos} (ho : OpR X (compareOp op) r) (v : VR2 X.K r fn) (ha : PE X a (tU X.K W u)) (hb : PE X b (tW X.K W g)) (hm : behindInMarks op b = false) (h1 : PSs X as (tS X.K W J g1)) (h2 : PSs X bs (tS X.K W J g2)) :
    PS X (.If (.Compare a [op] [b] pos') as bs pos) (tS X.K W J (gIfU fn u g g1 g2)) := PS.imp (ps_if (pt_cmpR ho ha hb hm) h1 h2) fun Dn σ H ⟨F0, H0, F, env, fl, s, e, k⟩ => by
  unfold gIfU at e
  rcases q : u env with _ | x | x
  · rw [q] at e; cases e
  · rw [q] at e; cases e
    exact ⟨F0, H0, F, env, _, s, q, fun cls dd F' H' x' s' r' => k cls dd σ F' H' x' s' KpJ.rfl' r'⟩
  · rw [q] at e
    refine ⟨F0, H0, F, env, _, s, q, fun v1 F1 H1 x1 s1 r1 => ?_⟩
    rcases gM_some e with ⟨kb, e1, e2⟩ | ⟨ex, e1, e2⟩
    · rcases bd_cases e1 with ⟨y, ey, e3⟩ | ⟨_, _, ee⟩
      · rcases bd_cases e3 with ⟨z, ez, e4⟩ | ⟨_, _, ee⟩
        · obtain ⟨z', ez1, ez2⟩ := lf_ok ez
          cases ez2
          refine tW.go s1 ey fun v2 F2 H2 fq g2 w2 => ?_
          refine v F2 H2 v1 v2 (0, x.1) y [] fq _ _ g2.fh ⟨rfl, r1.mono g2.ff⟩ w2 ez1 fun v3 F3 H3 fp3 g3 w3 nd nw => ?_
          have s3 := (s1.on g2).on g3
          have x3 : Ex F F3 := (x1.tr g2.ff).tr g3.ff
          obtain ⟨nz, dz⟩ := z
          cases dz with
          | bl kb' =>
            have e5 : kb' = kb := Except.ok.inj (Option.some.inj e4)
            subst e5
            refine ⟨kb', w3.bl, ?_⟩
            cases kb' with
            | true => exact ⟨F0, H0, F3, _, _, s3, e2, k.on x3⟩
            | false => exact ⟨F0, H0, F3, _, _, s3, e2, k.on x3⟩
          | _ => cases e4
        · cases ee
      · cases ee
    · subst e2
      rcases bd_cases e1 with ⟨y, ey, e3⟩ | ⟨ex', ey, ee⟩
      · rcases bd_cases e3 with ⟨⟨nz, dz⟩, ez, e4⟩ | ⟨_, ez, ee⟩
        · cases dz <;> cases e4
        · obtain ⟨_, _, e5⟩ := lf_ok ez
          cases e5
      · cases ee
        exact tW.ex s1 ey (FlOk.er s1 (k.on x1))
end
end DP
/-! DP: a second name for an object within a list, for the rest of a block. -/
namespace DP
open PySem L2 PySem.Spec PyProof.Rows
def alBack (i j : Nat) (p : List Nat) (x : Sv) (n' : Nat) : Fl → Option Fl
  | .nx env => match env[j]? with
    | some (some (m, e)) => if m = n' then some (.nx ((env.set j none).set i (some (x.1, putN p x.2 e)))) else none
    | _ => none
  | .rt y => some (.rt y)
  | .er e env => some (.er e ((env.set j none).set i none))
  | _ => none
def gAl (i j : Nat) (f : Env → M Sv) (gb : Gs) : Gs := fun env => match plGet (plE i f) env with
  | some (.ok r) => if 1 ≤ r.2.2.1 ∧ j < env.length then (gb ((env.set i none).set j (some r.2.2))).bind (alBack i j r.1 r.2.1 r.2.2.1) else none
  | _ => none
section
variable {X : Cx} {W : WX} {K : Fg} {J : List Nat} {F0 H0 F H F1 H1 F2 H2 : Hp} {σ σ1 σ2 : L2.St} {env env2 : Env} {f : Env → M Sv} {gb : Gs}
theorem set_none_get {env : Env} {i k : Nat} {y : Sv} (h : (env.set i none)[k]? = some (some y)) : k ≠ i ∧ env[k]? = some (some y) := by
  by_cases c : k = i
  · subst c
    by_cases l : k < env.length
    · rw [List.getElem?_set_self l] at h; cases h
    · rw [List.getElem?_eq_none (by simpa using l)] at h; cases h
  · rw [List.getElem?_set_ne (Ne.symm c)] at h
    exact ⟨c, h⟩
/-- an object is lent to a name of its own: what holds it stands aside -/
theorem SR.lend (s : SR K F0 H0 F1 H1 σ env) {i j n n' : Nat} {d e : D} {p : List Nat} {u v : V} (hij : i ≠ j) (q : env[i]? = some (some (n, d))) (hj : j < env.length) (hn : nav p n d = some (n', e)) (hv : σ[i]? = some (some v)) (nv : NavV H1 p v u) {R : Prop}
    (h : ∀ B : Hp, Ex H0 B → SR K F0 B F1 H1 (σ.set j (some u)) ((env.set i none).set j (some (n', e))) →
      (∀ F2 H2 σ2 env2, Ex F1 F2 → SR K F0 B F2 H2 σ2 env2 → σ2[i]? = some (some v) → σ2[j]? = some (some u) →
        ∀ e', env2[j]? = some (some (n', e')) → SR K F0 H0 F2 H2 σ2 ((env2.set j none).set i (some (n, putN p d e')))) → R) : R := by
  obtain ⟨fr, q1, q2, q3, q4, q5⟩ := s.tight
  obtain ⟨v0, hv0, ow⟩ := q1 i n d q
  have ev : v0 = v := by rw [hv] at hv0; cases hv0; rfl
  subst ev
  have hi : i < env.length := (List.getElem?_eq_some_iff.mp q).1
  obtain ⟨u0, sub, nv0, o1, nds, ss, up⟩ := Ow.nav ow (q2 i) hn
  have eu : u0 = u := NavV.det nv0 nv
  subst eu
  have hin : ∀ a, a ∈ fr i → a ∉ sub → (fun a => if a ∈ fr i ∧ a ∉ sub then H1 a else H0 a : Hp) a = H1 a := fun a m n => if_pos ⟨m, n⟩
  have hout : ∀ a, ¬(a ∈ fr i ∧ a ∉ sub) → (fun a => if a ∈ fr i ∧ a ∉ sub then H1 a else H0 a : Hp) a = H0 a := fun a m => if_neg m
  generalize (fun a => if a ∈ fr i ∧ a ∉ sub then H1 a else H0 a : Hp) = B at hin hout
  have exB : Ex H0 B := fun a o e => by
    rw [hout a fun m => by rw [q4 i a m.1] at e; cases e]; exact e
  have exB1 : Ex B H1 := fun a o e => by
    by_cases c : a ∈ fr i ∧ a ∉ sub
    · rw [hin a c.1 c.2] at e; exact e
    · rw [hout a c] at e; exact s.g.hh a o e
  have noB : ∀ a, B a = none → a ∉ fr i ∨ a ∈ sub := fun a e => by
    by_cases c : a ∈ fr i ∧ a ∉ sub
    · rw [hin a c.1 c.2] at e
      exact absurd e (q5 i a c.1)
    · by_cases c1 : a ∈ fr i
      · exact .inr (Classical.byContradiction fun c2 => c ⟨c1, c2⟩)
      · exact .inl c1
  refine h B exB ⟨⟨s.g.ff, exB1, s.g.fh, fun a o e nt => ?_⟩, by simpa using s.len, fun k => if k = j then sub else if k = i then [] else fr k, ?_, ?_, ?_, ?_⟩ fun F2 H2 σ2 env2 ex2 s2 hi2 hj2 e' he' => ?_
  · by_cases c : a ∈ fr i ∧ a ∉ sub
    · have z := (ow.fp a c.1).1
      rw [z]
      cases h0 : F0 a with
      | none => rfl
      | some o' =>
        have := s.g.ff a o' h0
        rw [z] at this; cases this
    · rw [hout a c] at e
      exact s.g.nw a o e nt
  · intro k m d2 hk
    dsimp only
    by_cases cj : k = j
    · subst cj
      rw [if_pos rfl]
      rw [List.getElem?_set_self (by simpa using hj)] at hk
      cases hk
      exact ⟨u0, by rw [List.getElem?_set_self (by rw [← s.len]; exact hj)], o1⟩
    · rw [if_neg cj]
      rw [List.getElem?_set_ne (Ne.symm cj)] at hk
      obtain ⟨ci, hk⟩ := set_none_get hk
      rw [if_neg ci]
      obtain ⟨w, e1, e2⟩ := q1 k m d2 hk
      exact ⟨w, by rw [List.getElem?_set_ne (Ne.symm cj)]; exact e1, e2⟩
  · intro k
    dsimp only
    by_cases cj : k = j
    · rw [if_pos cj]; exact nds
    · rw [if_neg cj]
      by_cases ci : k = i
      · rw [if_pos ci]; exact List.nodup_nil
      · rw [if_neg ci]; exact q2 k
  · intro k l a ha hb
    have at_ : ∀ k, a ∈ (if k = j then sub else if k = i then [] else fr k) → (k = j ∧ a ∈ sub) ∨ (k ≠ j ∧ k ≠ i ∧ a ∈ fr k) := fun k ha => by
      by_cases cj : k = j
      · rw [if_pos cj] at ha; exact .inl ⟨cj, ha⟩
      · rw [if_neg cj] at ha
        by_cases ci : k = i
        · rw [if_pos ci] at ha; cases ha
        · rw [if_neg ci] at ha; exact .inr ⟨cj, ci, ha⟩
    rcases at_ k ha with ⟨k1, k2⟩ | ⟨k1, k2, k3⟩
    · rcases at_ l hb with ⟨l1, l2⟩ | ⟨l1, l2, l3⟩
      · rw [k1, l1]
      · exact absurd (q3 i l a (ss a k2) l3) (Ne.symm l2)
    · rcases at_ l hb with ⟨l1, l2⟩ | ⟨l1, l2, l3⟩
      · exact absurd (q3 k i a k3 (ss a l2)) k2
      · exact q3 k l a k3 l3
  · intro k a ha
    dsimp only at ha
    have hB : ¬(a ∈ fr i ∧ a ∉ sub) → H0 a = none → B a = none := fun c e => by rw [hout a c]; exact e
    by_cases cj : k = j
    · rw [if_pos cj] at ha
      exact hB (fun c => c.2 ha) (q4 i a (ss a ha))
    · rw [if_neg cj] at ha
      by_cases ci : k = i
      · rw [if_pos ci] at ha; cases ha
      · rw [if_neg ci] at ha
        exact hB (fun c => ci (q3 k i a ha c.1)) (q4 k a ha)
  · obtain ⟨fr2, r1, r2, r3, r4, r5⟩ := s2.tight
    obtain ⟨w, hw, ow2⟩ := r1 j n' e' he'
    have ew : w = u0 := by rw [hj2] at hw; cases hw; rfl
    subst ew
    obtain ⟨fp', o3, nd3, sub3⟩ := up F2 H2 e' (fr2 j) ex2 ow2 (r2 j) (fun a m => (noB a (r4 j a m)).symm) fun b o mb nb e => by
      have hb : B b = some o := by rw [hin b mb nb]; exact e
      exact ⟨s2.g.hh b o hb, fun nt => (s2.g.nw b o hb nt).trans (by
        have z := (ow.fp b mb).1
        rw [z]
        cases h0 : F0 b with
        | none => rfl
        | some o' =>
          have := s.g.ff b o' h0
          rw [z] at this; cases this)⟩
    have out3 : ∀ k a, k ≠ j → a ∈ fr2 k → a ∉ fp' := fun k a kj m m3 => by
      rcases sub3 a m3 with ⟨z1, z2⟩ | z
      · rcases noB a (r4 k a m) with y | y
        · exact y z1
        · exact z2 y
      · exact kj (r3 k j a m z)
    refine ⟨Gr.lo exB s2.g, by simpa using s2.len, fun k => if k = i then fp' else if k = j then [] else fr2 k, ?_, ?_, ?_, ?_⟩
    · intro k m d2 hk
      dsimp only
      by_cases ci : k = i
      · subst ci
        rw [if_pos rfl]
        rw [List.getElem?_set_self (by rw [List.length_set, s2.len]; exact (List.getElem?_eq_some_iff.mp hi2).1)] at hk
        cases hk
        exact ⟨v0, hi2, o3⟩
      · rw [if_neg ci]
        rw [List.getElem?_set_ne (Ne.symm ci)] at hk
        obtain ⟨cj, hk⟩ := set_none_get hk
        rw [if_neg cj]
        exact r1 k m d2 hk
    · intro k
      dsimp only
      by_cases ci : k = i
      · rw [if_pos ci]; exact nd3
      · rw [if_neg ci]
        by_cases cj : k = j
        · rw [if_pos cj]; exact List.nodup_nil
        · rw [if_neg cj]; exact r2 k
    · intro k l a ha hb
      have at_ : ∀ k, a ∈ (if k = i then fp' else if k = j then [] else fr2 k) → (k = i ∧ a ∈ fp') ∨ (k ≠ i ∧ k ≠ j ∧ a ∈ fr2 k) := fun k ha => by
        by_cases ci : k = i
        · rw [if_pos ci] at ha; exact .inl ⟨ci, ha⟩
        · rw [if_neg ci] at ha
          by_cases cj : k = j
          · rw [if_pos cj] at ha; cases ha
          · rw [if_neg cj] at ha; exact .inr ⟨ci, cj, ha⟩
      rcases at_ k ha with ⟨k1, k2⟩ | ⟨k1, k2, k3⟩
      · rcases at_ l hb with ⟨l1, l2⟩ | ⟨l1, l2, l3⟩
        · rw [k1, l1]
        · exact absurd k2 (out3 l a l2 l3)
      · rcases at_ l hb with ⟨l1, l2⟩ | ⟨l1, l2, l3⟩
        · exact absurd l2 (out3 k a k2 k3)
        · exact r3 k l a k3 l3
    · intro k a ha
      dsimp only at ha
      by_cases ci : k = i
      · rw [if_pos ci] at ha
        rcases sub3 a ha with ⟨z1, _⟩ | z
        · exact q4 i a z1
        · exact exB.back (r4 j a z)
      · rw [if_neg ci] at ha
        by_cases cj : k = j
        · rw [if_pos cj] at ha; cases ha
        · rw [if_neg cj] at ha; exact exB.back (r4 k a ha)
theorem sd_alias {i j : Nat} {t x : Str} {e : Expr} {p p' sp pos : Pos} {rest : List Stmt} (hij : i ≠ j) (hN : X.N.Nodup) (hj : X.N[j]? = some x) (hx : Loc X.env.scope x) (ht : PE X (.Name t p) (tVar i)) (he : PE X e (tW X.K W f)) (hb : PSs X rest (tS X.K W (i :: j :: J) gb)) (hpi : PlainIx e := by intro _ _; rfl)
    (hs : swapsWith (.Subscript (.Name t p) e sp) (some (.Name x p')) pos.line X.env = pure false := by rfl) (hf : X.fn x = true ∨ X.env.scope.names.lookup x = some .local := by first | exact .inl rfl | exact .inr rfl | assumption) (hJ : j ∉ J := by decide) :
    PSs X (.Assign [.Name x p'] (.Subscript (.Name t p) e sp) pos :: rest) (tS X.K W J (gAl i j f gb)) := PSs.imp (pss_cons (ps_set hN hj hx (pl_ix ht he hpi) hs hf) hb) fun Dn σ H ⟨F0, H0, F, env, r, s, q, k⟩ => by
  unfold gAl at q
  rcases eP : plGet (plE i f) env with _ | _ | ⟨p, ⟨n, d⟩, ⟨n', e0⟩⟩
  · rw [eP] at q; cases q
  · rw [eP] at q; cases q
  · rw [eP] at q
    have q : (if 1 ≤ n' ∧ j < env.length then (gb ((env.set i none).set j (some (n', e0)))).bind (alBack i j p (n, d) n') else none) = some r := q
    by_cases c : 1 ≤ n' ∧ j < env.length
    · rw [if_pos c] at q
      obtain ⟨r1, eb, ea⟩ := Option.bind_eq_some_iff.mp q
      obtain ⟨e1, e2, e3⟩ := plGet_ok eP
      refine ⟨F0, H0, F, env, p, (n, d), (n', e0), s, eP, fun v u F1 H1 g1 hv nv => ?_⟩
      have s1 := s.on g1
      have hv : σ[i]? = some (some v) := hv
      have hjl := c.2
      refine s1.lend hij e2 hjl e3 hv nv fun B exB sB back => ?_
      have hjs : j < σ.length := by rw [← s.len]; exact hjl
      have hi1 : (σ.set j (some u))[i]? = some (some v) := by rw [List.getElem?_set_ne (Ne.symm hij)]; exact hv
      have hj1 : (σ.set j (some u))[j]? = some (some u) := List.getElem?_set_self hjs
      refine ⟨F0, B, F1, _, r1, sB, eb, ?_⟩
      have kj : ∀ {σ2 : L2.St}, KpJ (i :: j :: J) (σ.set j (some u)) σ2 → KpJ J σ σ2 := fun {σ2} z => (KpJ.set (v := some u) hJ).tr fun l m => z l (List.mem_cons_of_mem _ (List.mem_cons_of_mem _ m))
      cases r1 with
      | nx env2 =>
        have ea : (match env2[j]? with | some (some (m, e)) => if m = n' then some (Fl.nx ((env2.set j none).set i (some (n, putN p d e)))) else none | _ => none) = some r := ea
        rcases h2 : env2[j]? with _ | _ | ⟨m, e'⟩
        · rw [h2] at ea; cases ea
        · rw [h2] at ea; cases ea
        · rw [h2] at ea
          have ea : (if m = n' then some (Fl.nx ((env2.set j none).set i (some (n, putN p d e')))) else none) = some r := ea
          by_cases cm : m = n'
          · rw [if_pos cm] at ea
            cases ea
            subst cm
            exact fun σ2 F2 H2 x2 s2 z2 => k σ2 F2 H2 (g1.ff.tr x2) (back F2 H2 σ2 env2 x2 s2 ((z2 i List.mem_cons_self).trans hi1) ((z2 j (List.mem_cons_of_mem _ List.mem_cons_self)).trans hj1) e' h2) (kj z2)
          · rw [if_neg cm] at ea; cases ea
      | rt y =>
        cases ea
        exact fun v F H fp g o nd z => k v F H fp (Gr.lo exB g) o nd fun a m => exB.back (z a m)
      | er ex env2 =>
        cases ea
        exact fun cls dd σ2 F2 H2 x2 s2 z2 rx => k cls dd σ2 F2 H2 (g1.ff.tr x2) (by
          refine SR.less (env := env2) ⟨Gr.lo exB s2.g, s2.len, ?_⟩ (by simp) fun l y hl => (set_none_get (set_none_get hl).2).2
          obtain ⟨fp, h1, h2, h3, h4⟩ := s2.ex
          exact ⟨fp, h1, h2, h3, fun l a m => exB.back (h4 l a m)⟩) (kj z2) (rx.on exB)
      | bk env2 => cases ea
      | ct env2 => cases ea
      | rv d env2 => cases ea
    · rw [if_neg c] at q; cases q
end
end DP
/-! DP: a dict beside an empty one. -/
namespace DP
open PySem L2 PySem.Spec PyProof.Rows
section
variable {prog : Program} {w : World} {A : Around} {E : Value → Shared → Prop} {s : Shared}
theorem pairs0 {nm : String} {a b : Addr} {oa ob : Obj} {es es' : Array DictEntry} {ep ep' : Nat} {Q : Bool → Shared → Prop} (ha : (a == sysModules) = false) (hb : (b == sysModules) = false)
    (hoa : s.heap.get? a = some oa) (hda : oa.data = .dict es ep) (hob : s.heap.get? b = some ob) (hdb : ob.data = .dict es' ep') (h0 : es'.size = 0) (h : Q (decide (es.size = 0)) s) :
    wpAny (model prog w) A (Builtin.Dict.samePairs nm a b) Q E s := by
  unfold Builtin.Dict.samePairs Builtin.Dict.showsAll
  rw [if_neg (show ¬ (a == sysModules) = true by rw [ha]; simp), if_neg (show ¬ (b == sysModules) = true by rw [hb]; simp)]
  refine wpAny_bind (wpAny_pure (wpAny_bind (wpAny_pure (wpAny_bind (wpAny_dictEntries hoa hda ?_)))))
  dsimp only
  refine wpAny_bind (wpAny_dictEntries hob hdb ?_)
  by_cases hz : es.size = 0
  · rw [if_neg (by rw [hz, h0]; simp)]
    refine wpAny_bind (wpAny_dictEpoch hoa hda (wpAny_bind ?_))
    rw [Std.Legacy.Range.forIn_eq_forIn_range']
    simp only [Std.Legacy.Range.size, Nat.sub_zero, Nat.add_sub_cancel, Nat.div_one, hz]
    refine wpAny_forIn_list _ (fun rest q s' => s' = s ∧ q = (none, ()) ∧ rest = []) _ ?_ ?_ _ _ ⟨rfl, rfl, rfl⟩
    · rintro x rest q s' ⟨_, _, e⟩
      cases e
    · rintro q s' ⟨rfl, rfl, _⟩
      rw [decide_eq_true hz] at h
      exact wpAny_pure h
  · rw [if_pos (by rw [h0]; simpa using hz)]
    rw [decide_eq_false hz] at h
    exact wpAny_bind (wpAny_rule (wpAny_pure h))
theorem ne_dict0 {a b : Addr} {oa ob : Obj} {es es' : Array DictEntry} {ep ep' : Nat} {Q : Value → Shared → Prop} (ha : (a == sysModules) = false) (hb : (b == sysModules) = false)
    (hoa : s.heap.get? a = some oa) (hxa : oa.ExactDict) (hda : oa.data = .dict es ep) (hob : s.heap.get? b = some ob) (hxb : ob.ExactDict) (hdb : ob.data = .dict es' ep') (h0 : es'.size = 0) (hu : A.units < cLine) (h : Q (.bool (!decide (es.size = 0))) s) :
    wpAny (model prog w) A (compareOp .NotEq (.ref a) (.ref b)) Q E s := by
  have ta : s.TypeIs (.ref a) "dict" := ⟨oa, hoa, hxa.1⟩
  have tb : s.TypeIs (.ref b) "dict" := ⟨ob, hob, hxb.1⟩
  refine wpAny_richCompare_same_room (op := .NotEq) ta tb PySem.F.slot_dict_ne (wpAny_call_entry PySem.F.slot_dict_ne ta PySem.F.entry_dict_ne ?_ (PySem.F.args_dict_ne_2 _ _)) hu
  show wpAny _ _ (Builtin.Dict.dictSlotArgs "__ne__" ⟨[.ref a, .ref b], []⟩ >>= _) _ _ s
  unfold Builtin.Dict.dictSlotArgs
  refine wpAny_bind (wpAny_bind (wpAny_notOrdered_dict ta ?_))
  show wpAny _ _ (pure (Value.ref a, Value.ref b)) _ _ s
  refine wpAny_pure (wpAny_bind (wpAny_isInstance (T := "dict") tb PySem.F.sub_dict_dict ?_))
  simp only [Bool.not_true, Bool.false_eq_true, if_false]
  refine wpAny_bind (wpAny_pure (wpAny_bind (wpAny_pure (wpAny_bind (pairs0 ha hb hoa hda hob hdb h0 ?_)))))
  refine wpAny_pure ⟨_, rfl, ?_, ?_⟩
  · intro x; exact nomatch x
  · simpa using h
end
/-- d != {} -/
def rNe0 : R2 := fun x y H Q => ∃ a b kvs, x = .ref a ∧ y = .ref b ∧ H a = some (.dT kvs) ∧ H b = some (.dT []) ∧ Q (.bl (!decide (kvs.length = 0))) H
theorem op_ne0 {X : Cx} (hu : X.A.units < cLine) : OpR X (compareOp .NotEq) rNe0 := by
  intro pins s σ H x y v u Q I rx ry h
  obtain ⟨a, b, kvs, rfl, rfl, ea, eb, q⟩ := h
  cases rx
  cases ry
  obtain ⟨_, ya, xs, pa, oa, es, ep, ga, xa, da, la, _⟩ := (show ObjOk X.prog X.w H s.heap a (.dT kvs) from I.hok a _ ea)
  obtain ⟨_, yb, ys, pb, ob, es', ep', gb, xb, db, lb, _⟩ := (show ObjOk X.prog X.w H s.heap b (.dT []) from I.hok b _ eb)
  have l1 : es.size = xs.length := size_of_entries la
  have l2 : kvs.length = xs.length := Paired.length pa
  have l3 : es'.size = ys.length := size_of_entries lb
  have l4 : ([] : List (List L2.Key × V)).length = ys.length := Paired.length pb
  exact ne_dict0 ya yb ga xa da gb xb db (by rw [l3, ← l4]; rfl) hu (fin_bl I q (by rw [l2, ← l1]))
def oNe0 : Sv → Sv → Option Sv := fun p q => match p, q with
  | (n, .dT ks ds), (m, .dT ks' ds') => if n ≤ 1 ∧ m ≤ 1 ∧ ks'.length = 0 then some (0, .bl (!decide (ks.length = 0))) else none
  | _, _ => none
theorem vNe0 {K : Fg} : VR2 K rNe0 oNe0 := by
  intro F H x y p q fp fq z Q e w1 w2 h k
  obtain ⟨n, d⟩ := p
  obtain ⟨m, d'⟩ := q
  cases d <;> first | (cases h; done) | skip
  cases d' <;> first | (cases h; done) | skip
  rename_i ks ds ks' ds'
  have h' : (if n ≤ 1 ∧ m ≤ 1 ∧ ks'.length = 0 then some ((0, .bl (!decide (ks.length = 0))) : Sv) else none) = some z := h
  by_cases c : n ≤ 1 ∧ m ≤ 1 ∧ ks'.length = 0
  · rw [if_pos c] at h'; cases h'
    obtain ⟨a, ws, rfl, h2, h3⟩ := w1.dT e c.1
    obtain ⟨b, us, rfl, h5, h6⟩ := w2.dT e c.2.1
    have hus : us = [] := by
      have := congrArg List.length h6.1
      rw [List.length_map, c.2.2] at this
      exact List.length_eq_zero_iff.mp this
    subst hus
    have hl : ws.length = ks.length := by rw [← h3.1, List.length_map]
    exact ⟨a, b, ws, rfl, rfl, h2, h5, by rw [hl]; exact k.fl e rfl⟩
  · rw [if_neg c] at h'; cases h'
def oNeA : Sv → Sv → Option Sv := oOr oNe oNe0
theorem vNeA {K : Fg} : VR2 K (fun x y H Q => rNeD K x y H Q ∨ rNe0 x y H Q) oNeA := VR2.or vNe vNe0
theorem op_neA {X : Cx} (hu : X.A.units + 64 < cLine) : OpR X (compareOp .NotEq) (fun x y H Q => rNeD X.K x y H Q ∨ rNe0 x y H Q) := (op_neD hu).or (op_ne0 (by omega))
end DP
/-! DP: items of what is nested, methods of the text in short. -/
namespace DP
open PySem L2 PySem.Spec PyProof.Rows
section
variable {X : Cx} {W : WX} {K : Fg} {J : List Nat} {F0 H0 F H F1 H1 F2 H2 : Hp} {σ : L2.St} {env : Env} {f g : Env → M Sv} {gs : Env → M (List Sv)} {a b : Expr} {pos : Pos}
def oIxN (p q : Sv) : Option Sv := match p, q.2 with
  | (n, .lst ds), .int i => (atI ds i).map fun d => ((n - 1, d) : Sv)
  | _, _ => none
theorem pw_ixN (ha : PE X a (tW X.K W f)) (hb : PE X b (tW X.K W g)) (hs : PlainIx b := by intro _ _; rfl) : PE X (.Subscript a b pos) (tW X.K W (f2 oIxN f g)) := PE.imp (pe_ix ix_seq ha hb hs) fun σ H Q ⟨F0, H0, F, env, s, o⟩ => by
  have o : Out (f2 oIxN f g env) (EvWk X.K F H Q) (ExOk X.K F H W σ) := o
  refine tW.out s (Out.imp o.bd (fun p op => ?_) fun _ k => k)
  intro v F1 H1 fp g1 w1
  refine tW.out (s.on g1) (Out.imp op.bd (fun q oq => ?_) fun _ k => k.on g1)
  obtain ⟨z, ez, kz⟩ := oq.lf
  intro u F2 H2 fq g2 w2
  obtain ⟨n, d⟩ := p
  obtain ⟨m, d'⟩ := q
  cases d with
  | lst ds =>
    cases d' with
    | int i =>
      have ez2 : (atI ds i).map (fun d => ((n - 1, d) : Sv)) = some z := ez
      cases ei : atI ds i with
      | none => rw [ei] at ez2; cases ez2
      | some d =>
        rw [ei] at ez2; cases ez2
        obtain ⟨jn, e1, e2⟩ := Option.bind_eq_some_iff.mp ei
        have w1' := w1.mono g2
        cases n with
        | zero =>
          obtain ⟨l, vs, rfl, h2, h3⟩ := w1'.2
          obtain ⟨x, hx, rx⟩ := h3.get e2
          refine .inl ⟨l, vs, i, x, rfl, w2.int, SqL.of (g2.fh _ _ h2), ?_, kz x F2 H2 [] (g1.trans g2) ⟨rfl, rx⟩⟩
          unfold atI
          rw [← h3.len, e1]
          exact hx
        | succ n =>
          obtain ⟨l, o, r, rfl, h2, h3, h4, h5⟩ := w1'
          cases o with
          | lst vs =>
            obtain ⟨x, r2, hx, ox⟩ := OwL.get h5 e2
            refine .inl ⟨l, vs, i, x, rfl, w2.int, SqL.of h3, ?_, kz x F2 H2 r2 (g1.trans g2) ox⟩
            unfold atI
            rw [← OwL.len h5, e1]
            exact hx
          | _ => exact h5.elim
    | _ => cases ez
  | _ => cases ez
/-! ### if U != V, both change something -/
def gIfUU (op : Sv → Sv → Option Sv) (u v : Env → MU) (g1 g2 : Gs) : Gs := fun env => match u env with
  | none => none
  | some (.error x) => some (.er x.1 x.2)
  | some (.ok x) => match v x.2 with
    | none => none
    | some (.error y) => some (.er y.1 y.2)
    | some (.ok y) => gM (bd (lf (op (0, x.1) (0, y.1))) asB) y.2 fun k => if k then g1 y.2 else g2 y.2
theorem sd_ifUU {op : CmpOp} {r : R2} {fn : Sv → Sv → Option Sv} {u v : Env → MU} {g1 g2 : Gs} {as bs : List Stmt} {pos' : Pos} (ho : OpR X (compareOp op) r) (vr : VR2 X.K r fn) (ha : PE X a (tU X.K W u)) (hb : PE X b (tU X.K W v)) (hm : behindInMarks op b = false) (h1 : PSs X as (tS X.K W J g1)) (h2 : PSs X bs (tS X.K W J g2)) :
    PS X (.If (.Compare a [op] [b] pos') as bs pos) (tS X.K W J (gIfUU fn u v g1 g2)) := PS.imp (ps_if (pt_cmpR ho ha hb hm) h1 h2) fun Dn σ H ⟨F0, H0, F, env, fl, s, e, k⟩ => by
  unfold gIfUU at e
  rcases q : u env with _ | x | x
  · rw [q] at e; cases e
  · rw [q] at e; cases e
    exact ⟨F0, H0, F, env, _, s, q, fun cls dd F' H' x' s' r' => k cls dd σ F' H' x' s' KpJ.rfl' r'⟩
  · rw [q] at e
    refine ⟨F0, H0, F, env, _, s, q, fun v1 F1 H1 x1 s1 r1 => ?_⟩
    dsimp only at e
    rcases q2 : v x.2 with _ | y | y
    · rw [q2] at e; cases e
    · rw [q2] at e; cases e
      exact ⟨F0, H0, F1, _, _, s1, q2, fun cls dd F' H' x' s' r' => k cls dd σ F' H' (x1.tr x') s' KpJ.rfl' r'⟩
    · rw [q2] at e
      refine ⟨F0, H0, F1, _, _, s1, q2, fun v2 F2 H2 x2 s2 r2 => ?_⟩
      rcases gM_some e with ⟨kb, e1, e2⟩ | ⟨ex, e1, e2⟩
      · rcases bd_cases e1 with ⟨z, ez, e4⟩ | ⟨_, _, ee⟩
        · obtain ⟨z', ez1, ez2⟩ := lf_ok ez
          cases ez2
          refine vr F2 H2 v1 v2 (0, x.1) (0, y.1) [] [] _ _ s2.fh ⟨rfl, r1.mono x2⟩ ⟨rfl, r2⟩ ez1 fun v3 F3 H3 fp3 g3 w3 nd nw => ?_
          have s3 := s2.on g3
          have x3 : Ex F F3 := (x1.tr x2).tr g3.ff
          obtain ⟨nz, dz⟩ := z
          cases dz with
          | bl kb' =>
            have e5 : kb' = kb := Except.ok.inj (Option.some.inj e4)
            subst e5
            refine ⟨kb', w3.bl, ?_⟩
            cases kb' with
            | true => exact ⟨F0, H0, F3, _, _, s3, e2, k.on x3⟩
            | false => exact ⟨F0, H0, F3, _, _, s3, e2, k.on x3⟩
          | _ => cases e4
        · cases ee
      · rcases bd_cases e1 with ⟨⟨nz, dz⟩, ez, e4⟩ | ⟨_, ez, ee⟩
        · cases dz <;> cases e4
        · obtain ⟨_, _, e5⟩ := lf_ok ez
          cases e5
end
/-! ### methods of the text -/
def MAt (K : Fg) (C : Addr) (nm qual : Str) (st : Stmt) : Prop := ∃ f fd, Fun K nm qual st f fd ∧ Meth K C nm f
def IAt (K : Fg) (C : Addr) (nm qual : Str) (st : Stmt) : Prop := ∃ f fd, Fun K nm qual st f fd ∧ Mk K C f
def MCal (P : Program) (w : World) (K : Fg) (mg : Str → Option Value) (base : Heap) (C : Addr) (nm : Str) (ps : List Str) (k : Nat) (m : List D → M Sv) : Prop :=
  ∃ f fd, FnOk P w K mg base (L2.CX P w) k f fd ps (spD K m) ∧ Binds K fd ps [] ∧ Meth K C nm f
def UCal (P : Program) (w : World) (K : Fg) (mg : Str → Option Value) (base : Heap) (C : Addr) (nm : Str) (ps : List Str) (k lv : Nat) (m : List D → Option RM) : Prop :=
  ∃ f fd, FnOk P w K mg base (L2.CX P w) k f fd ps (spU K lv m) ∧ Binds K fd ps [] ∧ Meth K C nm f
def ICal (P : Program) (w : World) (K : Fg) (mg : Str → Option Value) (base : Heap) (C : Addr) (ps : List Str) (k lv : Nat) (m : List D → Option RM) : Prop :=
  ∃ f fd, FnOk P w K mg base (L2.CX P w) k f fd ps (spU K (lv + 1) m) ∧ Binds K fd ps [] ∧ Mk K C f
section
variable {P : Program} {w : World} {K : Fg} {mg : Str → Option Value} {base : Heap} {C : Addr}
theorem mcal_of {x qual : Str} {st : Stmt} {N ps : List Str} {k : Nat} {g : Gs} (A : MAt K C x qual st)
    (hbind : ∀ (kV doc pm : Value) (an : Option Addr) (cdv ct : Value) (us : List Value), us.length = ps.length → bindArgs (PySem.W.fnOf x qual (defArgs st) (defBody st) (defScope st) .none kV doc pm an cdv ct) ⟨us, []⟩ = pure (ps.zip us))
    (S : FnScope N ps (defScope st))
    (hb : ∀ {f : Addr} (cdv : Value) (A : Around) (outer : List PySem.Env) (s : Shared) (H : Hp) (E : XK), Room k (A.deeper (envOfC qual (defScope st) s.heap.objs.size f cdv)) →
      Takes (cxOf (L2.CX P w) P w K mg base N qual (defScope st) f cdv A outer s H E) (fun cls d _ H => E cls d H) →
      PSs (cxOf (L2.CX P w) P w K mg base N qual (defScope st) f cdv A outer s H E) (defBody st) (tS K (fun cls d _ H => E cls d H) [] g)) :
    MCal P w K mg base C x ps (k + 1) (runG N ps.length g) := by
  obtain ⟨f, fd, F, hm⟩ := A
  exact ⟨f, fd, fn_of F S hb, F.binds hbind, hm⟩
theorem ucal_of {x qual : Str} {st : Stmt} {N ps : List Str} {k lv : Nat} {g : Gs} (A : MAt K C x qual st)
    (hbind : ∀ (kV doc pm : Value) (an : Option Addr) (cdv ct : Value) (us : List Value), us.length = ps.length → bindArgs (PySem.W.fnOf x qual (defArgs st) (defBody st) (defScope st) .none kV doc pm an cdv ct) ⟨us, []⟩ = pure (ps.zip us))
    (S : FnScope N ps (defScope st))
    (hb : ∀ {f : Addr} (cdv : Value) (A : Around) (outer : List PySem.Env) (s : Shared) (H : Hp) (E : XK), Room k (A.deeper (envOfC qual (defScope st) s.heap.objs.size f cdv)) →
      Takes (cxOf (L2.CX P w) P w K mg base N qual (defScope st) f cdv A outer s H E) (fun cls d _ H => E cls d H) →
      PSs (cxOf (L2.CX P w) P w K mg base N qual (defScope st) f cdv A outer s H E) (defBody st) (tS K (fun cls d _ H => E cls d H) [0] g)) :
    UCal P w K mg base C x ps (k + 1) lv (runU N ps.length lv g) := by
  obtain ⟨f, fd, F, hm⟩ := A
  exact ⟨f, fd, fn_U F S hb, F.binds hbind, hm⟩
theorem ical_of {x qual : Str} {st : Stmt} {N ps : List Str} {k lv : Nat} {g : Gs} (A : IAt K C x qual st)
    (hbind : ∀ (kV doc pm : Value) (an : Option Addr) (cdv ct : Value) (us : List Value), us.length = ps.length → bindArgs (PySem.W.fnOf x qual (defArgs st) (defBody st) (defScope st) .none kV doc pm an cdv ct) ⟨us, []⟩ = pure (ps.zip us))
    (S : FnScope N ps (defScope st))
    (hb : ∀ {f : Addr} (cdv : Value) (A : Around) (outer : List PySem.Env) (s : Shared) (H : Hp) (E : XK), Room k (A.deeper (envOfC qual (defScope st) s.heap.objs.size f cdv)) →
      Takes (cxOf (L2.CX P w) P w K mg base N qual (defScope st) f cdv A outer s H E) (fun cls d _ H => E cls d H) →
      PSs (cxOf (L2.CX P w) P w K mg base N qual (defScope st) f cdv A outer s H E) (defBody st) (tS K (fun cls d _ H => E cls d H) [0] g)) :
    ICal P w K mg base C ps (k + 1) lv (runU N ps.length (lv + 1) g) := by
  obtain ⟨f, fd, F, hm⟩ := A
  exact ⟨f, fd, fn_U F S hb, F.binds hbind, hm⟩
end
/-- the class as the text needs it -/
structure Yo (K : Fg) (mg : Str → Option Value) (C : Addr) : Prop where
  cl : Cls K C
  n_moments : NoAttr K C "moments"
  n_held : NoAttr K C "held"
  at_ : mg "Yard" = some (.ref C)
section
variable {X : Cx} {W : WX} {f : Env → M Sv} {gs : Env → M (List Sv)}
theorem pd_mcal {C : Addr} {k : Nat} {ps : List Str} {m : List D → M Sv} {nm : Str} {apos pos : Pos} {o e : Expr} {es : List Expr} {pl : Sem Bool} (c : MCal X.prog X.w X.K X.mg X.base C nm ps k m) (y : Cls X.K C) (hr : Room k X.A) (tk : Takes X W) (he : PE X o (tW X.K W f))
    (ha : PA X (e :: es) (tAw X.K W gs)) (hst : starEach (e :: es) X.env = (false, eval e X.env) :: starEach es X.env := by rfl) (hpl : (backTo pos (starEach es X.env)).any (·.1) = false := by rfl)
    (ht : eval (.Call (.Attribute o nm apos) (e :: es) [] pos) X.env = (do
      let ov ← eval o X.env
      standAt apos.atName
      let (f, first) ← holding [ov] (getMethod ov nm pl)
      callWith pos f first (backTo pos (starEach (e :: es) X.env)) (backToKw pos (keywordEach [] X.env))) := by rfl) :
    PE X (.Call (.Attribute o nm apos) (e :: es) [] pos) (tD X.K W (fMeth C nm m f gs)) := by
  obtain ⟨fa, fd, G, b, hm⟩ := c
  exact pd_meth he y hm G hr b (fun σ => passAt tk σ) ha hst hpl ht
theorem pd_mcal0 {C : Addr} {k : Nat} {ps : List Str} {m : List D → M Sv} {nm : Str} {apos pos : Pos} {o : Expr} {pl : Sem Bool} (c : MCal X.prog X.w X.K X.mg X.base C nm ps k m) (y : Cls X.K C) (hr : Room k X.A) (tk : Takes X W) (he : PE X o (tW X.K W f))
    (ht : eval (.Call (.Attribute o nm apos) [] [] pos) X.env = (do
      let ov ← eval o X.env
      standAt apos.atName
      let (f, first) ← holding [ov] (getMethod ov nm pl)
      callWith pos f first (backTo pos (starEach [] X.env)) (backToKw pos (keywordEach [] X.env))) := by rfl) :
    PE X (.Call (.Attribute o nm apos) [] [] pos) (tD X.K W (fMeth C nm m f fNil)) := by
  obtain ⟨fa, fd, G, b, hm⟩ := c
  exact pd_meth0 he y hm G hr b (fun σ => passAt tk σ) ht
theorem pu_ucal {C : Addr} {k lv : Nat} {ps : List Str} {m : List D → Option RM} {nm : Str} {apos pos : Pos} {o e : Expr} {es : List Expr} {pl : Sem Bool} {P : Pl} (c : UCal X.prog X.w X.K X.mg X.base C nm ps k lv m) (y : Cls X.K C) (hr : Room k X.A) (tk : Takes X W) (he : PE X o (tPl X.K P))
    (ha : PA X (e :: es) (tAw X.K W gs)) (hst : starEach (e :: es) X.env = (false, eval e X.env) :: starEach es X.env := by rfl) (hpl : (backTo pos (starEach es X.env)).any (·.1) = false := by rfl)
    (ht : eval (.Call (.Attribute o nm apos) (e :: es) [] pos) X.env = (do
      let ov ← eval o X.env
      standAt apos.atName
      let (f, first) ← holding [ov] (getMethod ov nm pl)
      callWith pos f first (backTo pos (starEach (e :: es) X.env)) (backToKw pos (keywordEach [] X.env))) := by rfl) :
    PE X (.Call (.Attribute o nm apos) (e :: es) [] pos) (tU X.K W (uMeth C nm lv m P gs)) := by
  obtain ⟨fa, fd, G, b, hm⟩ := c
  exact pu_meth he y hm G hr b (fun σ => passAt tk σ) ha hst hpl ht
theorem pd_ical {C : Addr} {k lv : Nat} {ps : List Str} {m : List D → Option RM} {x : Str} {p pos : Pos} {e : Expr} {es : List Expr} (c : ICal X.prog X.w X.K X.mg X.base C ps k lv m) (hm : X.mg x = some (.ref C)) (hr : Room (k + 1) X.A) (tk : Takes X W)
    (ha : PA X (e :: es) (tAw X.K W gs)) (hg : Gl X x := by rfl) (hdb : (x == ("__debug__" : Str)) = false := by decide) (he : starEach (e :: es) X.env = (false, eval e X.env) :: starEach es X.env := by rfl) (hpl : (backTo pos (starEach es X.env)).any (·.1) = false := by rfl) :
    PE X (.Call (.Name x p) (e :: es) [] pos) (tD X.K W (fMake C lv m gs)) := by
  obtain ⟨fa, fd, G, b, M⟩ := c
  exact pd_make M G hr hm b (fun σ => passAt tk σ) ha hg hdb he hpl
end
end DP
/-! DP: dicts of pairs of ints and ints, names, read in plain Lean. -/
namespace DP
open PySem L2 PySem.Spec PyProof.Rows
abbrev PI2 := Int × Int
abbrev Hd := List (PI2 × Int)
abbrev eD (e : PI2 × Int) : List L2.Key × D := (kyP e.1, .int e.2)
def hD (h : Hd) : D := .dT (h.map fun e => kyP e.1) (h.map fun e => .int e.2)
def hGet (h : Hd) (p : PI2) : Option Int := (h.find? fun e => decide (e.1 = p)).map (·.2)
def hPut (h : Hd) (p : PI2) (v : Int) : Hd := if (h.any fun e => decide (e.1 = p)) = true then h.map (fun e => if e.1 = p then (e.1, v) else e) else h ++ [(p, v)]
def hDel (h : Hd) (p : PI2) : Hd := h.filter fun e => decide (e.1 ≠ p)
theorem kyP_inj {a b : PI2} : kyP a = kyP b ↔ a = b := by
  constructor
  · intro h
    obtain ⟨a1, a2⟩ := a
    obtain ⟨b1, b2⟩ := b
    simpa [kyP] using h
  · intro h; rw [h]
theorem hD_zip (h : Hd) : (h.map fun e => kyP e.1).zip (h.map fun e => (D.int e.2)) = h.map eD := by
  induction h with
  | nil => rfl
  | cons e r ih => rw [List.map_cons, List.map_cons, List.zip_cons_cons, ih]; rfl
theorem getP_h (h : Hd) (p : PI2) : getP (h.map eD) (kyP p) = (hGet h p).map .int := by
  unfold getP hGet
  induction h with
  | nil => rfl
  | cons e r ih =>
    rw [List.map_cons, List.find?_cons, List.find?_cons]
    by_cases c : e.1 = p
    · rw [decide_eq_true c, decide_eq_true (show (eD e).1 = kyP p from kyP_inj.mpr c)]; rfl
    · rw [decide_eq_false c, decide_eq_false (show ¬ (eD e).1 = kyP p from fun z => c (kyP_inj.mp z))]; exact ih
theorem any_h (h : Hd) (p : PI2) : ((h.map eD).any fun kv => decide (kv.1 = kyP p)) = h.any fun e => decide (e.1 = p) := by
  rw [List.any_map]
  congr 1
  funext e
  exact decide_eq_decide.mpr kyP_inj
theorem putP_h (h : Hd) (p : PI2) (v : Int) : putP (h.map eD) (kyP p) (.int v) = (hPut h p v).map eD := by
  unfold putP hPut
  rw [any_h]
  by_cases c : (h.any fun e => decide (e.1 = p)) = true
  · rw [if_pos c, if_pos c, List.map_map, List.map_map]
    apply List.map_congr_left
    intro e _
    by_cases ce : e.1 = p
    · show (if (eD e).1 = kyP p then ((eD e).1, D.int v) else eD e) = eD (if e.1 = p then (e.1, v) else e)
      rw [if_pos (kyP_inj.mpr ce), if_pos ce]
    · show (if (eD e).1 = kyP p then ((eD e).1, D.int v) else eD e) = eD (if e.1 = p then (e.1, v) else e)
      rw [if_neg (fun z => ce (kyP_inj.mp z)), if_neg ce]
  · rw [if_neg c, if_neg c, List.map_append]; rfl
theorem delP_h (h : Hd) (p : PI2) : delP (h.map eD) (kyP p) = (hDel h p).map eD := by
  unfold delP hDel
  rw [List.filter_map]
  congr 1
  apply List.filter_congr
  intro e _
  exact decide_eq_decide.mpr (not_congr kyP_inj)
theorem mkT_h (h : Hd) : mkT (h.map eD) = hD h := by
  unfold mkT hD
  rw [List.map_map, List.map_map]
  rfl
theorem keyT_p (i j : Int) : keyT (.tup [.int i, .int j]) = some (kyP (i, j)) := rfl
theorem dGet_h {n : Nat} (hn : n ≤ 1) (h : Hd) (i j : Int) : dGet (n, hD h) (.tup [.int i, .int j]) = some ((hGet h (i, j)).map .int) := by
  show (if n ≤ 1 then (keyT (.tup [.int i, .int j])).map fun k => getP ((h.map fun e => kyP e.1).zip (h.map fun e => (D.int e.2))) k else none) = _
  rw [if_pos hn, hD_zip, keyT_p, Option.map_some, getP_h]
theorem get_h {n m : Nat} (hn : n ≤ 1) (h : Hd) (i j : Int) : oGet (n, hD h) (m, .tup [.int i, .int j]) = some (0, ((hGet h (i, j)).map D.int).getD .non) := by
  show (dGet (n, hD h) (.tup [.int i, .int j])).map (fun o => ((0, o.getD .non) : Sv)) = _
  rw [dGet_h hn]; rfl
theorem isDct_h {n : Nat} (hn : n ≤ 1) (h : Hd) : isDct (n, hD h) = true := decide_eq_true hn
theorem ix_h {n m : Nat} (hn : n ≤ 1) {h : Hd} {i j v : Int} (q : hGet h (i, j) = some v) : oIxA (n, hD h) (m, .tup [.int i, .int j]) = some (0, .int v) := by
  show ((oIx (n, hD h) (m, .tup [.int i, .int j])).or (match dGet (n, hD h) (.tup [.int i, .int j]) with | some (some d) => some ((0, d) : Sv) | _ => none)) = _
  rw [dGet_h hn, q]; rfl
theorem in_h {n m : Nat} (hn : n ≤ 1) (h : Hd) (i j : Int) (neg : Bool) : oInA neg (m, .tup [.int i, .int j]) (n, hD h) = some (0, .bl (if neg then !(hGet h (i, j)).isSome else (hGet h (i, j)).isSome)) := by
  have e : dGet (n, hD h) (.tup [.int i, .int j]) = some ((hGet h (i, j)).map .int) := dGet_h hn h i j
  have e2 : oInD neg (m, .tup [.int i, .int j]) (n, hD h) = some (0, .bl (if neg then !(hGet h (i, j)).isSome else (hGet h (i, j)).isSome)) := by
    show (dGet (n, hD h) (.tup [.int i, .int j])).map (fun o => ((0, .bl (if neg then !o.isSome else o.isSome)) : Sv)) = _
    rw [e, Option.map_some, Option.isSome_map]
  show (((none : Option Sv).or (oIn neg (m, .tup [.int i, .int j]) (n, hD h))).or (oInD neg (m, .tup [.int i, .int j]) (n, hD h))) = _
  rw [e2]
  rfl
theorem len_h {n : Nat} (hn : n ≤ 1) (h : Hd) : oLen (n, hD h) = some (0, .int h.length) := by
  show (if n ≤ 1 then some ((0, .int ((h.map fun e => (D.int e.2)).length : Nat)) : Sv) else none) = _
  rw [if_pos hn, List.length_map]
theorem st_h {h : Hd} (hl : h.length < sizeLine) (i j v : Int) : stItem (hD h) (.tup [.int i, .int j]) (.int v) = some (hD (hPut h (i, j) v)) := by
  show (if (h.map fun e => (D.int e.2)).length < sizeLine then (keyT (.tup [.int i, .int j])).map fun k => mkT (putP ((h.map fun e => kyP e.1).zip (h.map fun e => (D.int e.2))) k (.int v)) else none) = _
  rw [if_pos (by rw [List.length_map]; exact hl), hD_zip, keyT_p, Option.map_some, putP_h, mkT_h]
theorem pop_h {h : Hd} {i j v : Int} (q : hGet h (i, j) = some v) : popD (hD h) (.tup [.int i, .int j]) = some (.int v, hD (hDel h (i, j))) := by
  show ((keyT (.tup [.int i, .int j])).bind fun k => (getP ((h.map fun e => kyP e.1).zip (h.map fun e => (D.int e.2))) k).map fun d => (d, mkT (delP ((h.map fun e => kyP e.1).zip (h.map fun e => (D.int e.2))) k))) = _
  rw [hD_zip, keyT_p, Option.bind_some, getP_h, q, delP_h, mkT_h]; rfl
theorem sorted_h {n : Nat} (hn : n ≤ 1) (h : Hd) : oSorted (n, hD h) = some (1, .lst ((sortP (h.map (·.1))).map tupP)) := by
  show (if n ≤ 1 then (pairK (h.map fun e => kyP e.1)).map fun ps => ((1, .lst ((sortP ps).map tupP)) : Sv) else none) = _
  rw [if_pos hn, show (h.map fun e => kyP e.1) = (h.map (·.1)).map kyP by rw [List.map_map]; rfl, pairK_map]; rfl
theorem ne0_h {n m : Nat} (hn : n ≤ 1) (hm : m ≤ 1) (h : Hd) : oNeA (n, hD h) (m, .dT [] []) = some (0, .bl (!decide (h.length = 0))) := by
  have e : oNe (n, hD h) (m, .dT [] []) = none := by
    show (if shp (hD h) && shp (.dT [] []) then some ((0, .bl (!eqD (hD h) (.dT [] []))) : Sv) else none) = none
    rw [if_neg]
    rw [show shp (hD h) = false by
      show (PyData.canLay0 (.dict []) && decide (PyData.depth (.dict []) ≤ 64)) = false
      rw [PyData.canLay0]; rfl]
    simp
  show (oNe (n, hD h) (m, .dT [] [])).or (if n ≤ 1 ∧ m ≤ 1 ∧ ([] : List (List L2.Key)).length = 0 then some ((0, .bl (!decide ((h.map fun e => kyP e.1).length = 0))) : Sv) else none) = _
  rw [e, if_pos ⟨hn, hm, rfl⟩, List.length_map]; rfl
theorem hGet_some {h : Hd} {p : PI2} (m : p ∈ h.map (·.1)) : ∃ v, hGet h p = some v := by
  obtain ⟨e, me, rfl⟩ := List.mem_map.mp m
  unfold hGet
  cases q : h.find? fun x => decide (x.1 = e.1) with
  | some x => exact ⟨x.2, rfl⟩
  | none =>
    have := List.find?_eq_none.mp q e me
    simp at this
theorem hGet_mem {h : Hd} {p : PI2} {v : Int} (q : hGet h p = some v) : p ∈ h.map (·.1) := by
  unfold hGet at q
  cases e : h.find? fun x => decide (x.1 = p) with
  | none => rw [e] at q; cases q
  | some x =>
    have h1 := List.find?_some e
    have h2 := List.mem_of_find?_eq_some e
    rw [← of_decide_eq_true h1]
    exact List.mem_map.mpr ⟨x, h2, rfl⟩
theorem hPut_len (h : Hd) (p : PI2) (v : Int) : (hPut h p v).length ≤ h.length + 1 := by
  unfold hPut
  split
  · rw [List.length_map]; omega
  · rw [List.length_append, List.length_singleton]; omega
theorem hDel_len (h : Hd) (p : PI2) : (hDel h p).length ≤ h.length := List.length_filter_le _ _
theorem hPut_keys (h : Hd) (p : PI2) (v : Int) {x : PI2} (m : x ∈ (hPut h p v).map (·.1)) : x ∈ h.map (·.1) ∨ x = p := by
  unfold hPut at m
  split at m
  · rw [List.map_map] at m
    obtain ⟨e, me, ex⟩ := List.mem_map.mp m
    left
    refine List.mem_map.mpr ⟨e, me, ?_⟩
    rw [← ex]
    show e.1 = (if e.1 = p then (e.1, v) else e).1
    split <;> rfl
  · rw [List.map_append] at m
    rcases List.mem_append.mp m with m | m
    · exact .inl m
    · exact .inr (List.mem_singleton.mp m)
theorem hDel_keys (h : Hd) (p : PI2) {x : PI2} (m : x ∈ (hDel h p).map (·.1)) : x ∈ h.map (·.1) := by
  obtain ⟨e, me, ex⟩ := List.mem_map.mp m
  exact List.mem_map.mpr ⟨e, (List.mem_filter.mp me).1, ex⟩
theorem hDel_not (h : Hd) (p : PI2) : p ∉ (hDel h p).map (·.1) := fun m => by
  obtain ⟨e, me, ex⟩ := List.mem_map.mp m
  exact (of_decide_eq_true (List.mem_filter.mp me).2) ex
theorem hPut_mem (h : Hd) (p : PI2) (v : Int) : p ∈ (hPut h p v).map (·.1) := by
  unfold hPut
  split
  · rename_i c
    obtain ⟨e, me, ce⟩ := List.any_eq_true.mp c
    have ce := of_decide_eq_true ce
    refine List.mem_map.mpr ⟨(e.1, v), List.mem_map.mpr ⟨e, me, ?_⟩, ce⟩
    rw [if_pos ce]
  · rw [List.map_append]
    exact List.mem_append_right _ List.mem_cons_self
end DP
/-! DP: reading the rest of the mirrors. -/
namespace DP
open PySem L2 PySem.Spec PyProof.Rows
section
variable {env : Env} {f g : Env → M Sv} {gs : Env → M (List Sv)} {g1 g2 : Gs} {C : Addr}
@[simp] theorem e_get : fGet f g env = bd (f env) fun p => bd (lf (if isDct p = true then some () else none)) fun _ => bd (g env) fun q => lf (oGet p q) := rfl
@[simp] theorem e_fld (x : Str) : fFld C x f env = bd (f env) fun p => lf (oFld C x p) := rfl
@[simp] theorem e_meth (nm : Str) (m : List D → M Sv) : fMeth C nm m f gs env = bd (f env) fun o => bd (lf (if isIns C nm o.2 = true then some () else none)) fun _ => bd (gs env) fun xs => clR (o :: xs) (m (o.2 :: xs.map (·.2))) := rfl
@[simp] theorem e_make (lv : Nat) (m : List D → Option RM) : fMake C lv m gs env = bd (gs env) fun xs => clR xs (mkR (lv + 1) (m (.ins C [] [] :: xs.map (·.2)))) := rfl
@[simp] theorem e_no : gNo env = none := rfl
def oU (r : MU) : Option Fl := match r with
  | none => none
  | some (.error x) => some (.er x.1 x.2)
  | some (.ok x) => some (.nx x.2)
@[simp] theorem e_gU (u : Env → MU) : gU u env = oU (u env) := rfl
@[simp] theorem oU_ok (x : D × Env) : oU (some (.ok x)) = some (.nx x.2) := rfl
@[simp] theorem e_retV : gRetV f env = gM (f env) env fun x => if x.1 = 0 then some (.rv x.2 env) else none := rfl
def oRU (r : MU) : Option Fl := match r with
  | none => none
  | some (.error x) => some (.er x.1 x.2)
  | some (.ok x) => some (.rv x.1 x.2)
@[simp] theorem e_retU (u : Env → MU) : gRetU u env = oRU (u env) := rfl
@[simp] theorem oRU_ok (x : D × Env) : oRU (some (.ok x)) = some (.rv x.1 x.2) := rfl
@[simp] theorem mB_ok {α : Type} (a : α) (k : α → MU) : mB (some (.ok a)) env k = k a := rfl
@[simp] theorem mP_ok {α : Type} (a : α) (k : α → MU) : mP (some (.ok a)) k = k a := rfl
@[simp] theorem e_app (P : Pl) : uApp P f env = mP (plGet P env) fun r => mP (lf (asLst r.2.2)) fun q => mB (f env) env fun y => if y.1 = q.1 ∧ q.2.length < sizeLine then some (.ok (.non, env.set P.i (some (r.2.1.1, putN r.1 r.2.1.2 (.lst (q.2 ++ [y.2])))))) else none := rfl
@[simp] theorem e_item (P : Pl) : uItem P f g env = mB (f env) env fun z => mP (lf (if z.1 = 0 then some () else none)) fun _ => mP (plGet P env) fun r => mP (lf (one1 r.2.2)) fun yd => mB (g env) env fun j => mP (lf (stItem yd j.2 z.2)) fun d' => some (.ok (.non, env.set P.i (some (r.2.1.1, putN r.1 r.2.1.2 d')))) := rfl
@[simp] theorem e_popD (P : Pl) : uPopD P f env = mP (plGet P env) fun r => mP (lf (asDct r.2.2)) fun yd => mB (f env) env fun j => mP (lf (popD yd j.2)) fun q => some (.ok (q.1, env.set P.i (some (r.2.1.1, putN r.1 r.2.1.2 q.2)))) := rfl
@[simp] theorem e_ufld (i : Nat) (x : Str) : uFld C i x f env = mB (f env) env fun z => mP (vl (env[i]?)) fun o => mP (lf (stFld C x o z)) fun o' => some (.ok (.non, env.set i (some o'))) := rfl
@[simp] theorem one1_1 (d : D) : one1 (1, d) = some d := rfl
@[simp] theorem asLst_1 (n : Nat) (ds : List D) : asLst (n + 1, .lst ds) = some (n, ds) := rfl
theorem plS_get (i : Nat) {x : Sv} (h : env[i]? = some (some x)) : plGet (plS i) env = some (.ok ([], x, x)) := by
  show bd (vl (env[i]?)) (fun x => lf ((nav [] x.1 x.2).map fun y => ([], x, y))) = _
  rw [h]; rfl
end
/-! ### a yard -/
def nD (ns : List Str) : D := .lst (ns.map .str)
def yD (C : Addr) (ns : List Str) (h : Hd) : D := .ins C ["moments", "held"] [nD ns, hD h]
section
variable {C : Addr} {ns : List Str} {h : Hd} {n : Nat}
@[simp] theorem fld_m : oFld C "moments" (n, yD C ns h) = some (n - 1, nD ns) := by
  show (if C = C ∧ 2 = 2 then (List.lookup ("moments" : Str) ((["moments", "held"] : List Str).zip [nD ns, hD h])).map (fun d => ((n - 1, d) : Sv)) else none) = _
  rw [if_pos ⟨rfl, rfl⟩]; rfl
@[simp] theorem fld_h : oFld C "held" (n, yD C ns h) = some (n - 1, hD h) := by
  show (if C = C ∧ 2 = 2 then (List.lookup ("held" : Str) ((["moments", "held"] : List Str).zip [nD ns, hD h])).map (fun d => ((n - 1, d) : Sv)) else none) = _
  rw [if_pos ⟨rfl, rfl⟩]; rfl
theorem ins_y (nm : Str) (hm : ((["moments", "held"] : List Str).all fun x => !(x == nm)) = true := by decide) : isIns C nm (yD C ns h) = true := by
  show (decide (C = C) && _) = true
  rw [decide_eq_true rfl]; exact hm
theorem plF_held {i : Nat} {env : Env} (q : env[i]? = some (some (2, yD C ns h))) : plGet (plF C i "held") env = some (.ok ([1], (2, yD C ns h), (1, hD h))) := by
  show bd (bd (vl (env[i]?)) fun x => match x.2 with | .ins C' fs _ => if C' = C ∧ fs.findIdx (· == ("held" : Str)) < fs.length then M.ok [fs.findIdx (· == ("held" : Str))] else M.no | _ => M.no) (fun p => bd (vl (env[i]?)) fun x => lf ((nav p x.1 x.2).map fun y => (p, x, y))) = _
  rw [q]
  have e : (if C = C ∧ (["moments", "held"] : List Str).findIdx (· == ("held" : Str)) < (["moments", "held"] : List Str).length then M.ok [(["moments", "held"] : List Str).findIdx (· == ("held" : Str))] else M.no : M (List Nat)) = M.ok [1] := by
    rw [if_pos ⟨rfl, by decide⟩]; rfl
  show bd (if C = C ∧ (["moments", "held"] : List Str).findIdx (· == ("held" : Str)) < (["moments", "held"] : List Str).length then M.ok [(["moments", "held"] : List Str).findIdx (· == ("held" : Str))] else M.no : M (List Nat)) _ = _
  rw [e]
  rfl
@[simp] theorem put_held (h' : Hd) : putN [1] (yD C ns h) (hD h') = yD C ns h' := rfl
/-- names that a yard takes -/
structure Nms (ns : List Str) : Prop where
  one : 1 ≤ ns.length
  most : ns.length ≤ 20
  ok : ∀ x ∈ ns, 1 ≤ x.length ∧ x.length ≤ 8 ∧ ∀ c ∈ cs x, c ∈ cs "abcdefghijklmnopqrstuvwxyz"
  nd : ns.Nodup
theorem flat_n (ns : List Str) : (ns.map D.str).all flat = true := by
  induction ns with
  | nil => rfl
  | cons x r ih => rw [List.map_cons, List.all_cons, ih]; rfl
theorem eqF_s (x y : Str) : eqF (.str x) (.str y) = decide (x = y) := by
  show eqV (.str x) (.str y) = _
  by_cases c : x = y
  · subst c
    rw [decide_eq_true rfl]
    simp [eqV]
  · rw [decide_eq_false c]
    simp [eqV, c]
theorem inF_n (ns : List Str) (x : Str) : inF (.str x) (ns.map D.str) = decide (x ∈ ns) := by
  unfold inF
  rw [List.any_map]
  induction ns with
  | nil => rfl
  | cons y r ih =>
    rw [List.any_cons, ih]
    show (eqF (.str y) (.str x) || _) = _
    rw [eqF_s]
    by_cases c : y = x
    · subst c; simp
    · simp [c, Ne.symm c]
theorem seq_n {n : Nat} (hn : n ≤ 1) : seqOf (n, nD ns) = some (ns.map D.str) := if_pos hn
theorem in_n {n m : Nat} (hn : n ≤ 1) (x : Str) (neg : Bool) : oInA neg (m, .str x) (n, nD ns) = some (0, .bl (if neg then !decide (x ∈ ns) else decide (x ∈ ns))) := by
  have e : oIn neg (m, .str x) (n, nD ns) = some (0, .bl (if neg then !decide (x ∈ ns) else decide (x ∈ ns))) := by
    show ((seqOf (n, nD ns)).bind fun ds => if flat (.str x) && ds.all flat then some ((0, .bl (if neg then !inF (.str x) ds else inF (.str x) ds)) : Sv) else none) = _
    rw [seq_n hn, Option.bind_some, flat_n, inF_n]; rfl
  show (((none : Option Sv).or (oIn neg (m, .str x) (n, nD ns))).or _) = _
  rw [e]; rfl
theorem idx_n (ns : List Str) (x : Str) : (ns.map D.str).findIdx (eqF · (.str x)) = ns.idxOf x := by
  induction ns with
  | nil => rfl
  | cons y r ih =>
    rw [List.map_cons, List.findIdx_cons, List.idxOf_cons, ih, eqF_s]
    by_cases c : y = x
    · subst c; simp
    · rw [decide_eq_false c, beq_eq_false_iff_ne.mpr c]
theorem index_n {n m : Nat} (hn : n ≤ 1) {x : Str} (hx : x ∈ ns) : oIndex (n, nD ns) (m, .str x) = some (0, .int (ns.idxOf x : Nat)) := by
  show (if n ≤ 1 ∧ flat (.str x) = true ∧ (ns.map D.str).all flat = true ∧ (ns.map D.str).findIdx (eqF · (.str x)) < (ns.map D.str).length then some ((0, .int ((ns.map D.str).findIdx (eqF · (.str x)) : Nat)) : Sv) else none) = _
  rw [idx_n, if_pos ⟨hn, rfl, flat_n ns, by rw [List.length_map]; exact List.idxOf_lt_length_of_mem hx⟩]
theorem ix_n {n m : Nat} (hn : n ≤ 1) {i : Nat} {x : Str} (q : ns[i]? = some x) : oIxA (n, nD ns) (m, .int (i : Nat)) = some (0, .str x) := by
  have hi := (List.getElem?_eq_some_iff.mp q).1
  obtain ⟨d, e, r⟩ := ixA_l (n := n) (m := m) (xs := ns.map D.str) (i := (i : Nat)) hn (by omega) (by rw [List.length_map]; omega)
  rw [show nD ns = .lst (ns.map D.str) from rfl, r]
  rw [Int.toNat_natCast, List.getElem?_map, q] at e
  cases e; rfl
theorem len_n {n : Nat} : oLen (n, nD ns) = some (0, .int ns.length) := by
  show some ((0, .int ((ns.map D.str).length : Nat)) : Sv) = _
  rw [List.length_map]
theorem list_n {n : Nat} (hn : n ≤ 1) : oList (n, nD ns) = some (1, nD ns) := by
  show (seqOf (n, nD ns)).map (fun ds => ((1, .lst ds) : Sv)) = _
  rw [seq_n hn]; rfl
theorem dd_nodup (ns : List Str) (h : ns.Nodup) : ∀ i, i ≤ ns.length → dd ns i = ns.take i
  | 0, _ => by rw [List.take_zero]; rfl
  | i + 1, hi => by
    have ih := dd_nodup ns h i (by omega)
    have hl : i < ns.length := by omega
    have hg : ns.getD i Str.empty = ns[i] := by rw [List.getD_eq_getElem?_getD, List.getElem?_eq_getElem hl]; rfl
    have hn : ns[i] ∉ ns.take i := fun m => by
      obtain ⟨j, hj⟩ := List.getElem?_of_mem m
      have hj2 := (List.getElem?_eq_some_iff.mp hj).1
      rw [List.length_take] at hj2
      rw [List.getElem?_take_of_lt (by omega)] at hj
      have hjl : j < ns.length := by omega
      have := List.pairwise_iff_getElem.mp h j i hjl hl (by omega)
      rw [List.getElem?_eq_getElem hjl] at hj
      exact this (Option.some.inj hj)
    rw [dd, ih, hg, if_neg, List.take_succ, List.getElem?_eq_getElem hl]
    · rfl
    · intro c
      obtain ⟨x, mx, ex⟩ := List.any_eq_true.mp c
      rw [beq_iff_eq] at ex
      rw [ex] at mx
      exact hn mx
theorem lenSet_n {n : Nat} (hn : n ≤ 1) (h : Nms ns) : oLenSet (n, nD ns) = some (0, .int ns.length) := by
  show (if n ≤ 1 then (txs (ns.map D.str)).bind fun xs => if xs.length ≤ 4000 then some ((0, .int ((dd xs xs.length).length : Nat)) : Sv) else none else none) = _
  rw [if_pos hn, txs_map, Option.bind_some, if_pos (by have := h.most; omega), dd_nodup ns h.nd _ (Nat.le_refl _), List.take_length]
theorem eq_i {n m : Nat} (a b : Int) : oEq (n, .int a) (m, .int b) = some (0, .bl (decide (a = b))) := by
  rw [eq_ok (by rfl) (by rfl)]
  show some ((0, .bl (a == b)) : Sv) = _
  rw [show (a == b) = decide (a = b) from rfl]
theorem ix_t0 {n m : Nat} (a b : D) : oIxA (n, .tup [a, b]) (m, .int 0) = some (0, a) := rfl
theorem ix_t1 {n m : Nat} (a b : D) : oIxA (n, .tup [a, b]) (m, .int 1) = some (0, b) := rfl
theorem idx_ne {x y : Str} (mx : x ∈ ns) (my : y ∈ ns) (hne : x ≠ y) : ns.idxOf x ≠ ns.idxOf y := fun e => by
  have h1 := List.getElem_idxOf (List.idxOf_lt_length_of_mem mx)
  have h2 := List.getElem_idxOf (List.idxOf_lt_length_of_mem my)
  apply hne
  rw [← h1, ← h2]
  simp only [e]
end
end DP
namespace G2
open PySem L2 DP
def top (i : Nat) : Stmt := PySem.Challenge.pw_gapyard_k02_gaps_put_and_taken.main.body.getD i (.Pass ⟨0, 0, 0, 0⟩)
def inClass (st : Stmt) (i : Nat) : Stmt := match st with | .ClassDef (body := b) .. => b.getD i (.Pass ⟨0, 0, 0, 0⟩) | s => s
structure Ct (mg : Str → Option Value) : Prop where
  LETTERS : ∃ t, mg "LETTERS" = some (.str "abcdefghijklmnopqrstuvwxyz" t)
  MOST_LETTERS : ∃ t, mg "MOST_LETTERS" = some (.int 8 t)
  MOST_NUMBER : ∃ t, mg "MOST_NUMBER" = some (.int 1000000000000000000000000000000000000000000000000000000000000 t)
  MOST_MOMENTS : ∃ t, mg "MOST_MOMENTS" = some (.int 20 t)
section
variable {P : Program} {w : World} {K : Fg} {mg : Str → Option Value} {base : Heap} {cY : Addr}
abbrev s_is_name : Stmt := top 11
abbrev N_is_name : List Str := ["thing", "sign"]
abbrev P_is_name : List Str := ["thing"]
theorem sc_is_name : FnScope N_is_name P_is_name (defScope s_is_name) := ⟨rfl, rfl, rfl, by decide +kernel, rfl, by decide +kernel, by decide +kernel⟩
def g_is_name (cY : Addr) : Gs := (gSeq (gIf (fOr (fNot (fT (fIsi "str" (fVarW 0)))) (fNot (fT (fChain oLe oLe (fK (.int 1)) (fC (c1 oLen) (fCons (fVarW 0) fNil)) (fK (.int 8)))))) (gRet (fK (.bl false))) gNil) (gRet (fC (c1 oAll) (fCons (fLc [1] (gN 1) fYes (f2 (oInA false) (fVarW 1) (fK (.str "abcdefghijklmnopqrstuvwxyz"))) (fSeq asSg (fVarW 0))) fNil))))
def m_is_name (cY : Addr) : List D → M Sv := runG N_is_name 1 (g_is_name cY)
theorem ok_is_name (A : At K mg "is_name" "is_name" s_is_name) (T : Bt mg) (C : Ct mg) (Y : Yo K mg cY) : Cal P w K mg base "is_name" P_is_name 1 (m_is_name cY) := cal_of A (fun _ _ _ _ _ _ us hl => match us, hl with | [_], _ => rfl) sc_is_name (fun cdv A outer s H E hr tk =>
  sd_cons (sd_if (PW.pt (pw_o (pt_n (pt_v (pd_w (pd_isi (x := "str") (T := "str") (pd_varW (pv 0)) (by rfl) T.isinstance (by rfl) T.str (by decide +kernel))))) (pw_o1 (pt_n (pt_chain2 op_le vB op_le vB (pd_w (pd_int)) (pd_w (pd_callB call_len' vLen (by rfl) T.len PySem.boot_len (pd_consw (pd_varW (pv 0)) (pd_nilw)))) (pd_w (pd_gI C.MOST_LETTERS))))))) (sd_one (sd_ret (pd_bl))) (sd_nil)) (sd_one (sd_ret (pd_callB (cr_all rfl) vAll (by rfl) T.all (by decide +kernel) (pd_consw (pd_w (pd_lc (own := [("sign", 1)]) [1] rfl sc_is_name.nd (pi_sg (pd_varW (pv 0))) (blkOk_by (N := N_is_name) (sc := defScope s_is_name) (by decide +kernel)) (fun _ _ _ _ _ => pg_n (pgn 1 sc_is_name.nd)) (fun _ _ _ _ _ => pts_0) (fun _ _ _ _ _ => pd_cmp (op_inA (hu_of hr)) vInA (pd_varW (pv 1)) (pd_w (pd_gS C.LETTERS)) (by rfl)))) (pd_nilw))))))
abbrev s_is_whole : Stmt := top 12
abbrev N_is_whole : List Str := ["thing"]
abbrev P_is_whole : List Str := ["thing"]
theorem sc_is_whole : FnScope N_is_whole P_is_whole (defScope s_is_whole) := ⟨rfl, rfl, rfl, by decide +kernel, rfl, by decide +kernel, by decide +kernel⟩
def g_is_whole (cY : Addr) : Gs := (gRet (fAndV (fIsi "int" (fVarW 0)) (fNotV (fIsi "bool" (fVarW 0)))))
def m_is_whole (cY : Addr) : List D → M Sv := runG N_is_whole 1 (g_is_whole cY)
theorem ok_is_whole (A : At K mg "is_whole" "is_whole" s_is_whole) (T : Bt mg) (C : Ct mg) (Y : Yo K mg cY) : Cal P w K mg base "is_whole" P_is_whole 1 (m_is_whole cY) := cal_of A (fun _ _ _ _ _ _ us hl => match us, hl with | [_], _ => rfl) sc_is_whole (fun cdv A outer s H E hr tk =>
  sd_one (sd_ret (pd_and (pd_w (pd_isi (x := "int") (T := "int") (pd_varW (pv 0)) (by rfl) T.isinstance (by rfl) T.int (by decide +kernel))) (pd_one (pd_not (pd_w (pd_isi (x := "bool") (T := "bool") (pd_varW (pv 0)) (by rfl) T.isinstance (by rfl) T.bool (by decide +kernel))))))))
abbrev s_is_number : Stmt := top 13
abbrev N_is_number : List Str := ["thing"]
abbrev P_is_number : List Str := ["thing"]
theorem sc_is_number : FnScope N_is_number P_is_number (defScope s_is_number) := ⟨rfl, rfl, rfl, by decide +kernel, rfl, by decide +kernel, by decide +kernel⟩
def g_is_number (cY : Addr) : Gs := (gRet (fAndV (fCall (m_is_whole cY) (fCons (fVarW 0) fNil)) (fChain oLe oLe (f1 oNeg (fK (.int 1000000000000000000000000000000000000000000000000000000000000))) (fVarW 0) (fK (.int 1000000000000000000000000000000000000000000000000000000000000)))))
def m_is_number (cY : Addr) : List D → M Sv := runG N_is_number 1 (g_is_number cY)
theorem ok_is_number (A : At K mg "is_number" "is_number" s_is_number) (T : Bt mg) (C : Ct mg) (Y : Yo K mg cY) (c_is_whole : Cal P w K mg base "is_whole" P_is_whole 1 (m_is_whole cY)) : Cal P w K mg base "is_number" P_is_number 2 (m_is_number cY) := cal_of A (fun _ _ _ _ _ _ us hl => match us, hl with | [_], _ => rfl) sc_is_number (fun cdv A outer s H E hr tk =>
  sd_one (sd_ret (pd_and (pd_w (pd_cal c_is_whole (hr.mono (by decide)) tk (pd_consw (pd_varW (pv 0)) (pd_nilw)))) (pd_one (pd_chain op_le vB op_le vB (pd_w (pd_un un_neg vNeg (pd_w (pd_gI C.MOST_NUMBER)))) (pd_varW (pv 0)) (pd_w (pd_gI C.MOST_NUMBER)))))))
abbrev s_Yard___init__ : Stmt := inClass (top 16) 0
abbrev N_Yard___init__ : List Str := ["self", "names", "name"]
abbrev P_Yard___init__ : List Str := ["self", "names"]
theorem sc_Yard___init__ : FnScope N_Yard___init__ P_Yard___init__ (defScope s_Yard___init__) := ⟨rfl, rfl, rfl, by decide +kernel, rfl, by decide +kernel, by decide +kernel⟩
def g_Yard___init__ (cY : Addr) : Gs := (gSeq (gIf (fOr (fNot (fT (fIsi "list" (fVarW 1)))) (fNot (fT (fChain oLe oLe (fK (.int 1)) (fC (c1 oLen) (fCons (fVarW 1) fNil)) (fK (.int 20)))))) gNo gNil) (gSeq (gIf (fNot (fT (fC (c1 oAll) (fCons (fLc [2] (gN 2) fYes (fCall (m_is_name cY) (fCons (fVarW 2) fNil)) (fSeq asL (fVar 1))) fNil)))) gNo gNil) (gSeq (gIf (fT (f2 oLtA (f1 oLenSet (fVarW 1)) (fC (c1 oLen) (fCons (fVarW 1) fNil)))) gNo gNil) (gSeq (gU (uFld cY 0 "moments" (fC (c1 oList) (fCons (fVarW 1) fNil)))) (gU (uFld cY 0 "held" (fNewT)))))))
def m_Yard___init__ (cY : Addr) : List D → Option RM := runU N_Yard___init__ 2 2 (g_Yard___init__ cY)
theorem ok_Yard___init__ (A : IAt K cY "__init__" "Yard.__init__" s_Yard___init__) (T : Bt mg) (C : Ct mg) (Y : Yo K mg cY) (c_is_name : Cal P w K mg base "is_name" P_is_name 1 (m_is_name cY)) : ICal P w K mg base cY P_Yard___init__ 2 1 (m_Yard___init__ cY) := ical_of (lv := 1) A (fun _ _ _ _ _ _ us hl => match us, hl with | [_, _], _ => rfl) sc_Yard___init__ (fun cdv A outer s H E hr tk =>
  sd_cons (sd_if (PW.pt (pw_o (pt_n (pt_v (pd_w (pd_isi (x := "list") (T := "list") (pd_varW (pv 1)) (by rfl) T.isinstance (by rfl) T.list (by decide +kernel))))) (pw_o1 (pt_n (pt_chain2 op_le vB op_le vB (pd_w (pd_int)) (pd_w (pd_callB call_len' vLen (by rfl) T.len PySem.boot_len (pd_consw (pd_varW (pv 1)) (pd_nilw)))) (pd_w (pd_gI C.MOST_MOMENTS))))))) (sd_one (sd_no)) (sd_nil)) (sd_cons (sd_if (pt_n (pt_v (pd_w (pd_callB (cr_all rfl) vAll (by rfl) T.all (by decide +kernel) (pd_consw (pd_w (pd_lc (own := [("name", 2)]) [2] rfl sc_Yard___init__.nd (pi_l (pd_var (pv 1))) (blkOk_by (N := N_Yard___init__) (sc := defScope s_Yard___init__) (by decide +kernel)) (fun _ _ _ _ _ => pg_n (pgn 2 sc_Yard___init__.nd)) (fun _ _ _ _ _ => pts_0) (fun _ _ _ _ _ => pd_cal c_is_name (hr.mono (by decide)) takes0 (pd_consw (pd_varW (pv 2)) (pd_nilw))))) (pd_nilw)))))) (sd_one (sd_no)) (sd_nil)) (sd_cons (sd_if (pt_cmp2 (op_ltA hr.units0) vLtA (pd_w (pd_lenSet rfl (by rfl) T.len (by rfl) T.set (pd_varW (pv 1)))) (pd_w (pd_callB call_len' vLen (by rfl) T.len PySem.boot_len (pd_consw (pd_varW (pv 1)) (pd_nilw)))) (nomark _)) (sd_one (sd_no)) (sd_nil)) (sd_cons (sd_fld Y.cl Y.n_moments (pv 0) (pd_callTy call_list_of vList (by rfl) T.list (by decide +kernel) (pd_consw (pd_varW (pv 1)) (pd_nilw)))) (sd_one (sd_fld Y.cl Y.n_held (pv 0) (pd_newT)))))))
abbrev s_Yard_names : Stmt := inClass (top 16) 1
abbrev N_Yard_names : List Str := ["self"]
abbrev P_Yard_names : List Str := ["self"]
theorem sc_Yard_names : FnScope N_Yard_names P_Yard_names (defScope s_Yard_names) := ⟨rfl, rfl, rfl, by decide +kernel, rfl, by decide +kernel, by decide +kernel⟩
def g_Yard_names (cY : Addr) : Gs := (gRet (fC (c1 oList) (fCons (fFld cY "moments" (fVarW 0)) fNil)))
def m_Yard_names (cY : Addr) : List D → M Sv := runG N_Yard_names 1 (g_Yard_names cY)
theorem ok_Yard_names (A : MAt K cY "names" "Yard.names" s_Yard_names) (T : Bt mg) (C : Ct mg) (Y : Yo K mg cY) : MCal P w K mg base cY "names" P_Yard_names 1 (m_Yard_names cY) := mcal_of A (fun _ _ _ _ _ _ us hl => match us, hl with | [_], _ => rfl) sc_Yard_names (fun cdv A outer s H E hr tk =>
  sd_one (sd_ret (pd_callTy call_list_of vList (by rfl) T.list (by decide +kernel) (pd_consw (pw_fld Y.cl Y.n_moments (pd_varW (pv 0))) (pd_nilw)))))
abbrev s_Yard_place_of : Stmt := inClass (top 16) 2
abbrev N_Yard_place_of : List Str := ["self", "name"]
abbrev P_Yard_place_of : List Str := ["self", "name"]
theorem sc_Yard_place_of : FnScope N_Yard_place_of P_Yard_place_of (defScope s_Yard_place_of) := ⟨rfl, rfl, rfl, by decide +kernel, rfl, by decide +kernel, by decide +kernel⟩
def g_Yard_place_of (cY : Addr) : Gs := (gSeq (gIf (fT (f2 (oInA true) (fVarW 1) (fFld cY "moments" (fVarW 0)))) gNo gNil) (gRet (fM "list" (m1 oIndex) (fFld cY "moments" (fVarW 0)) (fCons (fVarW 1) fNil))))
def m_Yard_place_of (cY : Addr) : List D → M Sv := runG N_Yard_place_of 2 (g_Yard_place_of cY)
theorem ok_Yard_place_of (A : MAt K cY "place_of" "Yard.place_of" s_Yard_place_of) (T : Bt mg) (C : Ct mg) (Y : Yo K mg cY) : MCal P w K mg base cY "place_of" P_Yard_place_of 1 (m_Yard_place_of cY) := mcal_of A (fun _ _ _ _ _ _ us hl => match us, hl with | [_, _], _ => rfl) sc_Yard_place_of (fun cdv A outer s H E hr tk =>
  sd_cons (sd_if (pt_cmp2 (op_notInA (hu_of hr)) vInA (pd_varW (pv 1)) (pw_fld Y.cl Y.n_moments (pd_varW (pv 0))) (by rfl)) (sd_one (sd_no)) (sd_nil)) (sd_one (sd_ret (pd_m vIndex (pe_bm PySem.F.plainAttrs_list PySem.F.slot_list_index PySem.F.type_list_index mt_index (pw_fld Y.cl Y.n_moments (pd_varW (pv 0))) (pd_consw (pd_varW (pv 1)) (pd_nilw)))))))
abbrev s_Yard_places : Stmt := inClass (top 16) 3
abbrev N_Yard_places : List Str := ["self", "one", "other"]
abbrev P_Yard_places : List Str := ["self", "one", "other"]
theorem sc_Yard_places : FnScope N_Yard_places P_Yard_places (defScope s_Yard_places) := ⟨rfl, rfl, rfl, by decide +kernel, rfl, by decide +kernel, by decide +kernel⟩
def g_Yard_places (cY : Addr) : Gs := (gSeq (gIf (fOr (fNot (fT (fCall (m_is_name cY) (fCons (fVarW 1) fNil)))) (fNot (fT (fCall (m_is_name cY) (fCons (fVarW 2) fNil))))) gNo gNil) (gRet (fTup (fCons (fMeth cY "place_of" (m_Yard_place_of cY) (fVarW 0) (fCons (fVarW 1) fNil)) (fCons (fMeth cY "place_of" (m_Yard_place_of cY) (fVarW 0) (fCons (fVarW 2) fNil)) fNil)))))
def m_Yard_places (cY : Addr) : List D → M Sv := runG N_Yard_places 3 (g_Yard_places cY)
theorem ok_Yard_places (A : MAt K cY "places" "Yard.places" s_Yard_places) (T : Bt mg) (C : Ct mg) (Y : Yo K mg cY) (c_is_name : Cal P w K mg base "is_name" P_is_name 1 (m_is_name cY)) (c_Yard_place_of : MCal P w K mg base cY "place_of" P_Yard_place_of 1 (m_Yard_place_of cY)) : MCal P w K mg base cY "places" P_Yard_places 2 (m_Yard_places cY) := mcal_of A (fun _ _ _ _ _ _ us hl => match us, hl with | [_, _, _], _ => rfl) sc_Yard_places (fun cdv A outer s H E hr tk =>
  sd_cons (sd_if (PW.pt (pw_o (pt_n (pt_v (pd_w (pd_cal c_is_name (hr.mono (by decide)) tk (pd_consw (pd_varW (pv 1)) (pd_nilw)))))) (pw_o1 (pt_n (pt_v (pd_w (pd_cal c_is_name (hr.mono (by decide)) tk (pd_consw (pd_varW (pv 2)) (pd_nilw))))))))) (sd_one (sd_no)) (sd_nil)) (sd_one (sd_ret (pd_tup (pd_cons (pd_mcal c_Yard_place_of Y.cl (hr.mono (by decide)) tk (pd_varW (pv 0)) (pd_consw (pd_varW (pv 1)) (pd_nilw))) (pd_cons (pd_mcal c_Yard_place_of Y.cl (hr.mono (by decide)) tk (pd_varW (pv 0)) (pd_consw (pd_varW (pv 2)) (pd_nilw))) (pd_nil)))))))
abbrev s_Yard_pair_of : Stmt := inClass (top 16) 4
abbrev N_Yard_pair_of : List Str := ["self", "one", "other", "pair"]
abbrev P_Yard_pair_of : List Str := ["self", "one", "other"]
theorem sc_Yard_pair_of : FnScope N_Yard_pair_of P_Yard_pair_of (defScope s_Yard_pair_of) := ⟨rfl, rfl, rfl, by decide +kernel, rfl, by decide +kernel, by decide +kernel⟩
def g_Yard_pair_of (cY : Addr) : Gs := (gSeq (gSet 3 (fMeth cY "places" (m_Yard_places cY) (fVarW 0) (fCons (fVarW 1) (fCons (fVarW 2) fNil)))) (gSeq (gIf (fT (f2 oEq (f2 oIxA (fVarW 3) (fK (.int 0))) (f2 oIxA (fVarW 3) (fK (.int 1))))) gNo gNil) (gRet (fVar 3))))
def m_Yard_pair_of (cY : Addr) : List D → M Sv := runG N_Yard_pair_of 3 (g_Yard_pair_of cY)
theorem ok_Yard_pair_of (A : MAt K cY "pair_of" "Yard.pair_of" s_Yard_pair_of) (T : Bt mg) (C : Ct mg) (Y : Yo K mg cY) (c_Yard_places : MCal P w K mg base cY "places" P_Yard_places 2 (m_Yard_places cY)) : MCal P w K mg base cY "pair_of" P_Yard_pair_of 3 (m_Yard_pair_of cY) := mcal_of A (fun _ _ _ _ _ _ us hl => match us, hl with | [_, _, _], _ => rfl) sc_Yard_pair_of (fun cdv A outer s H E hr tk =>
  sd_cons (sd_set 3 sc_Yard_pair_of.nd rfl (by first | exact .inl rfl | exact .inr rfl) (pd_mcal c_Yard_places Y.cl (hr.mono (by decide)) tk (pd_varW (pv 0)) (pd_consw (pd_varW (pv 1)) (pd_consw (pd_varW (pv 2)) (pd_nilw))))) (sd_cons (sd_if (pt_cmp2 (op_eqD hr.units) vEq (pd_w (pd_sub (hu_of hr) (pd_varW (pv 3)) (pd_w (pd_int)))) (pd_w (pd_sub (hu_of hr) (pd_varW (pv 3)) (pd_w (pd_int)))) (nomark _)) (sd_one (sd_no)) (sd_nil)) (sd_one (sd_ret (pd_var (pv 3))))))
abbrev s_Yard_put : Stmt := inClass (top 16) 5
abbrev N_Yard_put : List Str := ["self", "one", "other", "most", "pair", "old"]
abbrev P_Yard_put : List Str := ["self", "one", "other", "most"]
theorem sc_Yard_put : FnScope N_Yard_put P_Yard_put (defScope s_Yard_put) := ⟨rfl, rfl, rfl, by decide +kernel, rfl, by decide +kernel, by decide +kernel⟩
def g_Yard_put (cY : Addr) : Gs := (gSeq (gSet 4 (fMeth cY "pair_of" (m_Yard_pair_of cY) (fVarW 0) (fCons (fVarW 1) (fCons (fVarW 2) fNil)))) (gSeq (gIf (fNot (fT (fCall (m_is_number cY) (fCons (fVarW 3) fNil)))) gNo gNil) (gSeq (gSet 5 (fGet (fFld cY "held" (fVarW 0)) (fVarW 4))) (gSeq (gU (uItem (plF cY 0 "held") (fVar 3) (fVarW 4))) (gRetV (fVar 5))))))
def m_Yard_put (cY : Addr) : List D → Option RM := runU N_Yard_put 4 2 (g_Yard_put cY)
theorem ok_Yard_put (A : MAt K cY "put" "Yard.put" s_Yard_put) (T : Bt mg) (C : Ct mg) (Y : Yo K mg cY) (c_Yard_pair_of : MCal P w K mg base cY "pair_of" P_Yard_pair_of 3 (m_Yard_pair_of cY)) (c_is_number : Cal P w K mg base "is_number" P_is_number 2 (m_is_number cY)) : UCal P w K mg base cY "put" P_Yard_put 4 2 (m_Yard_put cY) := ucal_of A (fun _ _ _ _ _ _ us hl => match us, hl with | [_, _, _, _], _ => rfl) sc_Yard_put (fun cdv A outer s H E hr tk =>
  sd_cons (sd_set 4 sc_Yard_put.nd rfl (by first | exact .inl rfl | exact .inr rfl) (pd_mcal c_Yard_pair_of Y.cl (hr.mono (by decide)) tk (pd_varW (pv 0)) (pd_consw (pd_varW (pv 1)) (pd_consw (pd_varW (pv 2)) (pd_nilw))))) (sd_cons (sd_if (pt_n (pt_v (pd_w (pd_cal c_is_number (hr.mono (by decide)) tk (pd_consw (pd_varW (pv 3)) (pd_nilw)))))) (sd_one (sd_no)) (sd_nil)) (sd_cons (sd_set 5 sc_Yard_put.nd rfl (by first | exact .inl rfl | exact .inr rfl) (pd_get (hu_of hr) (pw_fld Y.cl Y.n_held (pd_varW (pv 0))) (pd_varW (pv 4)))) (sd_cons (sd_item (hu_of hr) (pd_var (pv 3)) (pl_fld Y.cl Y.n_held (pv 0)) (pd_varW (pv 4))) (sd_one (sd_retV (pd_var (pv 5))))))))
abbrev s_Yard_take : Stmt := inClass (top 16) 6
abbrev N_Yard_take : List Str := ["self", "one", "other", "pair"]
abbrev P_Yard_take : List Str := ["self", "one", "other"]
theorem sc_Yard_take : FnScope N_Yard_take P_Yard_take (defScope s_Yard_take) := ⟨rfl, rfl, rfl, by decide +kernel, rfl, by decide +kernel, by decide +kernel⟩
def g_Yard_take (cY : Addr) : Gs := (gSeq (gSet 3 (fMeth cY "pair_of" (m_Yard_pair_of cY) (fVarW 0) (fCons (fVarW 1) (fCons (fVarW 2) fNil)))) (gSeq (gIf (fT (f2 (oInA true) (fVarW 3) (fFld cY "held" (fVarW 0)))) gNo gNil) (gRetU (uPopD (plF cY 0 "held") (fVarW 3)))))
def m_Yard_take (cY : Addr) : List D → Option RM := runU N_Yard_take 3 2 (g_Yard_take cY)
theorem ok_Yard_take (A : MAt K cY "take" "Yard.take" s_Yard_take) (T : Bt mg) (C : Ct mg) (Y : Yo K mg cY) (c_Yard_pair_of : MCal P w K mg base cY "pair_of" P_Yard_pair_of 3 (m_Yard_pair_of cY)) : UCal P w K mg base cY "take" P_Yard_take 4 2 (m_Yard_take cY) := ucal_of A (fun _ _ _ _ _ _ us hl => match us, hl with | [_, _, _], _ => rfl) sc_Yard_take (fun cdv A outer s H E hr tk =>
  sd_cons (sd_set 3 sc_Yard_take.nd rfl (by first | exact .inl rfl | exact .inr rfl) (pd_mcal c_Yard_pair_of Y.cl (hr.mono (by decide)) tk (pd_varW (pv 0)) (pd_consw (pd_varW (pv 1)) (pd_consw (pd_varW (pv 2)) (pd_nilw))))) (sd_cons (sd_if (pt_cmp2 (op_notInA (hu_of hr)) vInA (pd_varW (pv 3)) (pw_fld Y.cl Y.n_held (pd_varW (pv 0))) (by rfl)) (sd_one (sd_no)) (sd_nil)) (sd_one (su_ret (pu_pop (hu_of hr) (pl_fld Y.cl Y.n_held (pv 0)) (pd_varW (pv 3)))))))
abbrev s_Yard_most : Stmt := inClass (top 16) 7
abbrev N_Yard_most : List Str := ["self", "one", "other"]
abbrev P_Yard_most : List Str := ["self", "one", "other"]
theorem sc_Yard_most : FnScope N_Yard_most P_Yard_most (defScope s_Yard_most) := ⟨rfl, rfl, rfl, by decide +kernel, rfl, by decide +kernel, by decide +kernel⟩
def g_Yard_most (cY : Addr) : Gs := (gRet (fGet (fFld cY "held" (fVarW 0)) (fMeth cY "pair_of" (m_Yard_pair_of cY) (fVarW 0) (fCons (fVarW 1) (fCons (fVarW 2) fNil)))))
def m_Yard_most (cY : Addr) : List D → M Sv := runG N_Yard_most 3 (g_Yard_most cY)
theorem ok_Yard_most (A : MAt K cY "most" "Yard.most" s_Yard_most) (T : Bt mg) (C : Ct mg) (Y : Yo K mg cY) (c_Yard_pair_of : MCal P w K mg base cY "pair_of" P_Yard_pair_of 3 (m_Yard_pair_of cY)) : MCal P w K mg base cY "most" P_Yard_most 4 (m_Yard_most cY) := mcal_of A (fun _ _ _ _ _ _ us hl => match us, hl with | [_, _, _], _ => rfl) sc_Yard_most (fun cdv A outer s H E hr tk =>
  sd_one (sd_ret (pd_get (hu_of hr) (pw_fld Y.cl Y.n_held (pd_varW (pv 0))) (pd_w (pd_mcal c_Yard_pair_of Y.cl (hr.mono (by decide)) tk (pd_varW (pv 0)) (pd_consw (pd_varW (pv 1)) (pd_consw (pd_varW (pv 2)) (pd_nilw))))))))
abbrev s_Yard_steps : Stmt := inClass (top 16) 8
abbrev N_Yard_steps : List Str := ["self", "pair"]
abbrev P_Yard_steps : List Str := ["self"]
theorem sc_Yard_steps : FnScope N_Yard_steps P_Yard_steps (defScope s_Yard_steps) := ⟨rfl, rfl, rfl, by decide +kernel, rfl, by decide +kernel, by decide +kernel⟩
def g_Yard_steps (cY : Addr) : Gs := (gRet (fLc [1] (gN 1) fYes (f2 oAddA (fVarW 1) (fTup (fCons (f2 oIxA (fFld cY "held" (fVarW 0)) (fVarW 1)) fNil))) (fSeq asL (fC (c1 oSorted) (fCons (fFld cY "held" (fVarW 0)) fNil)))))
def m_Yard_steps (cY : Addr) : List D → M Sv := runG N_Yard_steps 1 (g_Yard_steps cY)
theorem ok_Yard_steps (A : MAt K cY "steps" "Yard.steps" s_Yard_steps) (T : Bt mg) (C : Ct mg) (Y : Yo K mg cY) : MCal P w K mg base cY "steps" P_Yard_steps 1 (m_Yard_steps cY) := mcal_of A (fun _ _ _ _ _ _ us hl => match us, hl with | [_], _ => rfl) sc_Yard_steps (fun cdv A outer s H E hr tk =>
  sd_one (sd_ret (pd_lc (own := [("pair", 1)]) [1] rfl sc_Yard_steps.nd (pi_l (pd_callB (cr_sortedDT rfl) vSorted (by rfl) T.sorted (by decide +kernel) (pd_consw (pw_fld Y.cl Y.n_held (pd_varW (pv 0))) (pd_nilw)))) (blkOk_by (N := N_Yard_steps) (sc := defScope s_Yard_steps) (by decide +kernel)) (fun _ _ _ _ _ => pg_n (pgn 1 sc_Yard_steps.nd)) (fun _ _ _ _ _ => pts_0) (fun _ _ _ _ _ => pd_op op_addA vAddA (pd_varW (pv 1)) (pd_w (pd_tup (pd_cons (pd_sub (hu_of hr) (pw_fld Y.cl Y.n_held (pd_varW (pv 0))) (pd_varW (pv 1))) (pd_nil))))))))
abbrev s_Yard_gaps : Stmt := inClass (top 16) 9
abbrev N_Yard_gaps : List Str := ["self", "one", "other", "most"]
abbrev P_Yard_gaps : List Str := ["self"]
theorem sc_Yard_gaps : FnScope N_Yard_gaps P_Yard_gaps (defScope s_Yard_gaps) := ⟨rfl, rfl, rfl, by decide +kernel, rfl, by decide +kernel, by decide +kernel⟩
def g_Yard_gaps (cY : Addr) : Gs := (gRet (fLc [1, 2, 3] (gT [1, 2, 3]) fYes (fTup (fCons (f2 oIxA (fFld cY "moments" (fVarW 0)) (fVarW 1)) (fCons (f2 oIxA (fFld cY "moments" (fVarW 0)) (fVarW 2)) (fCons (fVar 3) fNil)))) (fSeq asL (fMeth cY "steps" (m_Yard_steps cY) (fVarW 0) fNil))))
def m_Yard_gaps (cY : Addr) : List D → M Sv := runG N_Yard_gaps 1 (g_Yard_gaps cY)
theorem ok_Yard_gaps (A : MAt K cY "gaps" "Yard.gaps" s_Yard_gaps) (T : Bt mg) (C : Ct mg) (Y : Yo K mg cY) (c_Yard_steps : MCal P w K mg base cY "steps" P_Yard_steps 1 (m_Yard_steps cY)) : MCal P w K mg base cY "gaps" P_Yard_gaps 2 (m_Yard_gaps cY) := mcal_of A (fun _ _ _ _ _ _ us hl => match us, hl with | [_], _ => rfl) sc_Yard_gaps (fun cdv A outer s H E hr tk =>
  sd_one (sd_ret (pd_lc (own := [("one", 1), ("other", 2), ("most", 3)]) [1, 2, 3] rfl sc_Yard_gaps.nd (pi_l (pd_mcal0 c_Yard_steps Y.cl (hr.mono (by decide)) tk (pd_varW (pv 0)))) (blkOk_by (N := N_Yard_gaps) (sc := defScope s_Yard_gaps) (by decide +kernel)) (fun _ _ _ _ _ => pg_t rfl (PNs.cons (pgn 1 sc_Yard_gaps.nd) (PNs.cons (pgn 2 sc_Yard_gaps.nd) (PNs.cons (pgn 3 sc_Yard_gaps.nd) (PNs.nil) rfl) rfl) rfl)) (fun _ _ _ _ _ => pts_0) (fun _ _ _ _ _ => pd_tup (pd_cons (pd_sub (hu_of hr) (pw_fld Y.cl Y.n_moments (pd_varW (pv 0))) (pd_varW (pv 1))) (pd_cons (pd_sub (hu_of hr) (pw_fld Y.cl Y.n_moments (pd_varW (pv 0))) (pd_varW (pv 2))) (pd_cons (pd_var (pv 3)) (pd_nil))))))))
abbrev s__law_draw : Stmt := top 18
abbrev N__law_draw : List Str := ["_law_script", "_law_k"]
abbrev P__law_draw : List Str := ["_law_script", "_law_k"]
theorem sc__law_draw : FnScope N__law_draw P__law_draw (defScope s__law_draw) := ⟨rfl, rfl, rfl, by decide +kernel, rfl, by decide +kernel, by decide +kernel⟩
def g__law_draw (cY : Addr) : Gs := (gRet (fIf (fT (f2 oGt (fC (c1 oLen) (fCons (fVarW 0) fNil)) (fVarW 1))) (f2 oIxA (fVarW 0) (fVarW 1)) (fK (.int 0))))
def m__law_draw (cY : Addr) : List D → M Sv := runG N__law_draw 2 (g__law_draw cY)
theorem ok__law_draw (A : At K mg "_law_draw" "_law_draw" s__law_draw) (T : Bt mg) (C : Ct mg) (Y : Yo K mg cY) : Cal P w K mg base "_law_draw" P__law_draw 1 (m__law_draw cY) := cal_of A (fun _ _ _ _ _ _ us hl => match us, hl with | [_, _], _ => rfl) sc__law_draw (fun cdv A outer s H E hr tk =>
  sd_one (sd_ret (pd_if (pt_cmp2 op_gt vB (pd_w (pd_callB call_len' vLen (by rfl) T.len PySem.boot_len (pd_consw (pd_varW (pv 0)) (pd_nilw)))) (pd_varW (pv 1)) (nomark _)) (pd_sub (hu_of hr) (pd_varW (pv 0)) (pd_varW (pv 1))) (pd_int))))
abbrev s__law_spread : Stmt := top 19
abbrev N__law_spread : List Str := ["_law_cell", "_law_k"]
abbrev P__law_spread : List Str := ["_law_cell", "_law_k"]
theorem sc__law_spread : FnScope N__law_spread P__law_spread (defScope s__law_spread) := ⟨rfl, rfl, rfl, by decide +kernel, rfl, by decide +kernel, by decide +kernel⟩
def g__law_spread (cY : Addr) : Gs := (gRet (f2 oMod (f2 oMulA (f2 oAddA (fVarW 0) (fK (.int 3))) (f2 oAddA (f2 oAddA (fK (.int 48271)) (f2 oMulA (f2 oMulA (fK (.int 2)) (fVarW 1)) (fVarW 1))) (fVarW 1))) (fK (.int 2147483647))))
def m__law_spread (cY : Addr) : List D → M Sv := runG N__law_spread 2 (g__law_spread cY)
theorem ok__law_spread (A : At K mg "_law_spread" "_law_spread" s__law_spread) (T : Bt mg) (C : Ct mg) (Y : Yo K mg cY) : Cal P w K mg base "_law_spread" P__law_spread 1 (m__law_spread cY) := cal_of A (fun _ _ _ _ _ _ us hl => match us, hl with | [_, _], _ => rfl) sc__law_spread (fun cdv A outer s H E hr tk =>
  sd_one (sd_ret (pd_op op_mod vMod (pd_w (pd_op op_mulA vMulA (pd_w (pd_op op_addA vAddA (pd_varW (pv 0)) (pd_w (pd_int)))) (pd_w (pd_op op_addA vAddA (pd_w (pd_op op_addA vAddA (pd_w (pd_int)) (pd_w (pd_op op_mulA vMulA (pd_w (pd_op op_mulA vMulA (pd_w (pd_int)) (pd_varW (pv 1)))) (pd_varW (pv 1)))))) (pd_varW (pv 1)))))) (pd_w (pd_int)))))
abbrev s__law_names : Stmt := top 20
abbrev N__law_names : List Str := ["_law_cell", "_law_many_here", "_law_letters", "_law_word", "_law_start", "_law_own", "_law_k", "_law_one"]
abbrev P__law_names : List Str := ["_law_cell", "_law_many_here"]
theorem sc__law_names : FnScope N__law_names P__law_names (defScope s__law_names) := ⟨rfl, rfl, rfl, by decide +kernel, rfl, by decide +kernel, by decide +kernel⟩
def g__law_names (cY : Addr) : Gs := (gSeq (gSet 2 (fK (.str "abcdefghijklmnopqrstuvwxyz"))) (gSeq (gSet 3 (fM "str" (m1 oJoin) (fK (.str "")) (fCons (fLc [6] (gN 6) fYes (f2 oIxA (fVarW 2) (f2 oMod (f2 oDiv (fCall (m__law_spread cY) (fCons (fVarW 0) (fCons (f2 oAddA (fK (.int 40)) (fVarW 6)) fNil))) (fK (.int 7))) (fK (.int 26)))) (fRg asR1 (fCons (f2 oMod (fCall (m__law_spread cY) (fCons (fVarW 0) (fCons (fK (.int 39)) fNil))) (fK (.int 8))) fNil))) fNil))) (gSeq (gSet 4 (f2 oMod (f2 oDiv (fCall (m__law_spread cY) (fCons (fVarW 0) (fCons (fK (.int 38)) fNil))) (fK (.int 3))) (fK (.int 26)))) (gSeq (gSet 5 (fLc [6] (gN 6) fYes (f2 oIxA (fVarW 2) (f2 oMod (f2 oAddA (fVarW 4) (fVarW 6)) (fK (.int 26)))) (fRg asR1 (fCons (fVarW 1) fNil)))) (gFz 5 (gRet (fIf (fT (f2 oGt (f2 oMod (fCall (m__law_spread cY) (fCons (fVarW 0) (fCons (fK (.int 37)) fNil))) (fK (.int 3))) (fK (.int 0)))) (fLc [7] (gN 7) fYes (f2 oAddA (fVarW 3) (fVarW 7)) (fSeq asL (fVar 5))) (fLc [7] (gN 7) fYes (f2 oAddA (fVarW 7) (fVarW 3)) (fSeq asL (fVar 5))))))))))
def m__law_names (cY : Addr) : List D → M Sv := runG N__law_names 2 (g__law_names cY)
theorem ok__law_names (A : At K mg "_law_names" "_law_names" s__law_names) (T : Bt mg) (C : Ct mg) (Y : Yo K mg cY) (c__law_spread : Cal P w K mg base "_law_spread" P__law_spread 1 (m__law_spread cY)) : Cal P w K mg base "_law_names" P__law_names 2 (m__law_names cY) := cal_of A (fun _ _ _ _ _ _ us hl => match us, hl with | [_, _], _ => rfl) sc__law_names (fun cdv A outer s H E hr tk =>
  sd_cons (sd_set 2 sc__law_names.nd rfl (by first | exact .inl rfl | exact .inr rfl) (pd_str)) (sd_cons (sd_set 3 sc__law_names.nd rfl (by first | exact .inl rfl | exact .inr rfl) (pd_m vJoin (pe_bm PySem.F.plainAttrs_str PySem.F.slot_str_join PySem.F.type_str_join mt_join (pd_w (pd_str)) (pd_consw (pd_w (pd_lc (own := [("_law_k", 6)]) [6] rfl sc__law_names.nd (pi_rg1 (by rfl) T.range (pd_consw (pd_w (pd_op op_mod vMod (pd_w (pd_cal c__law_spread (hr.mono (by decide)) tk (pd_consw (pd_varW (pv 0)) (pd_consw (pd_w (pd_int)) (pd_nilw))))) (pd_w (pd_int)))) (pd_nilw))) (blkOk_by (N := N__law_names) (sc := defScope s__law_names) (by decide +kernel)) (fun _ _ _ _ _ => pg_n (pgn 6 sc__law_names.nd)) (fun _ _ _ _ _ => pts_0) (fun _ _ _ _ _ => pd_sub (hu_of hr) (pd_varW (pv 2)) (pd_w (pd_op op_mod vMod (pd_w (pd_op op_fdiv vDiv (pd_w (pd_cal c__law_spread (hr.mono (by decide)) takes0 (pd_consw (pd_varW (pv 0)) (pd_consw (pd_w (pd_op op_addA vAddA (pd_w (pd_int)) (pd_varW (pv 6)))) (pd_nilw))))) (pd_w (pd_int)))) (pd_w (pd_int))))))) (pd_nilw))))) (sd_cons (sd_set 4 sc__law_names.nd rfl (by first | exact .inl rfl | exact .inr rfl) (pd_op op_mod vMod (pd_w (pd_op op_fdiv vDiv (pd_w (pd_cal c__law_spread (hr.mono (by decide)) tk (pd_consw (pd_varW (pv 0)) (pd_consw (pd_w (pd_int)) (pd_nilw))))) (pd_w (pd_int)))) (pd_w (pd_int)))) (sd_cons (sd_setLc 5 (own := [("_law_k", 6)]) [6] rfl sc__law_names.nd rfl rfl (sw_true rfl rfl rfl (by decide +kernel)) (pi_rg1 (by rfl) T.range (pd_consw (pd_varW (pv 1)) (pd_nilw))) (blkOk_by (N := N__law_names) (sc := defScope s__law_names) (by decide +kernel)) (fun _ _ _ _ _ => pg_n (pgn 6 sc__law_names.nd)) (fun _ _ _ _ _ => pts_0) (fun _ _ _ _ _ => pd_sub (hu_of hr) (pd_varW (pv 2)) (pd_w (pd_op op_mod vMod (pd_w (pd_op op_addA vAddA (pd_varW (pv 4)) (pd_varW (pv 6)))) (pd_w (pd_int)))))) (sd_one (sd_fz 5 (sd_ret (pd_if (pt_cmp2 op_gt vB (pd_w (pd_op op_mod vMod (pd_w (pd_cal c__law_spread (hr.mono (by decide)) tk (pd_consw (pd_varW (pv 0)) (pd_consw (pd_w (pd_int)) (pd_nilw))))) (pd_w (pd_int)))) (pd_w (pd_int)) (nomark _)) (pd_lc (own := [("_law_one", 7)]) [7] rfl sc__law_names.nd (pi_l (pd_var (pv 5))) (blkOk_by (N := N__law_names) (sc := defScope s__law_names) (by decide +kernel)) (fun _ _ _ _ _ => pg_n (pgn 7 sc__law_names.nd)) (fun _ _ _ _ _ => pts_0) (fun _ _ _ _ _ => pd_op op_addA vAddA (pd_varW (pv 3)) (pd_varW (pv 7)))) (pd_lc (own := [("_law_one", 7)]) [7] rfl sc__law_names.nd (pi_l (pd_var (pv 5))) (blkOk_by (N := N__law_names) (sc := defScope s__law_names) (by decide +kernel)) (fun _ _ _ _ _ => pg_n (pgn 7 sc__law_names.nd)) (fun _ _ _ _ _ => pts_0) (fun _ _ _ _ _ => pd_op op_addA vAddA (pd_varW (pv 7)) (pd_varW (pv 3))))))))))))
abbrev s__law_many : Stmt := top 21
abbrev N__law_many : List Str := ["_law_script"]
abbrev P__law_many : List Str := ["_law_script"]
theorem sc__law_many : FnScope N__law_many P__law_many (defScope s__law_many) := ⟨rfl, rfl, rfl, by decide +kernel, rfl, by decide +kernel, by decide +kernel⟩
def g__law_many (cY : Addr) : Gs := (gRet (f2 oIxA (fLst 0 (fCons (fK (.int 1)) (fCons (fK (.int 2)) (fCons (fK (.int 3)) (fCons (fK (.int 4)) (fCons (fK (.int 5)) (fCons (fK (.int 6)) (fCons (fK (.int 7)) (fCons (fK (.int 8)) (fCons (fK (.int 6)) (fCons (fK (.int 5)) (fCons (fK (.int 12)) (fCons (fK (.int 20)) fNil))))))))))))) (f2 oMod (fCall (m__law_draw cY) (fCons (fVarW 0) (fCons (fK (.int 2)) fNil))) (fK (.int 12)))))
def m__law_many (cY : Addr) : List D → M Sv := runG N__law_many 1 (g__law_many cY)
theorem ok__law_many (A : At K mg "_law_many" "_law_many" s__law_many) (T : Bt mg) (C : Ct mg) (Y : Yo K mg cY) (c__law_draw : Cal P w K mg base "_law_draw" P__law_draw 1 (m__law_draw cY)) : Cal P w K mg base "_law_many" P__law_many 2 (m__law_many cY) := cal_of A (fun _ _ _ _ _ _ us hl => match us, hl with | [_], _ => rfl) sc__law_many (fun cdv A outer s H E hr tk =>
  sd_one (sd_ret (pd_sub (hu_of hr) (pd_w (pd_lst 0 (pd_cons (pd_int) (pd_cons (pd_int) (pd_cons (pd_int) (pd_cons (pd_int) (pd_cons (pd_int) (pd_cons (pd_int) (pd_cons (pd_int) (pd_cons (pd_int) (pd_cons (pd_int) (pd_cons (pd_int) (pd_cons (pd_int) (pd_cons (pd_int) (pd_nil))))))))))))))) (pd_w (pd_op op_mod vMod (pd_w (pd_cal c__law_draw (hr.mono (by decide)) tk (pd_consw (pd_varW (pv 0)) (pd_consw (pd_w (pd_int)) (pd_nilw))))) (pd_w (pd_int)))))))
abbrev s__law_right : Stmt := top 22
abbrev N__law_right : List Str := ["_law_yard", "_law_names_here", "_law_held", "_law_draw_here", "_law_rows", "_law_found", "_law_told", "_law_one", "_law_other"]
abbrev P__law_right : List Str := ["_law_yard", "_law_names_here", "_law_held", "_law_draw_here"]
theorem sc__law_right : FnScope N__law_right P__law_right (defScope s__law_right) := ⟨rfl, rfl, rfl, by decide +kernel, rfl, by decide +kernel, by decide +kernel⟩
def g__law_right (cY : Addr) : Gs := (gSeq (gSet 4 (fLc [7, 8] (gT [7, 8]) fYes (fTup (fCons (f2 oIxA (fVarW 1) (fVarW 7)) (fCons (f2 oIxA (fVarW 1) (fVarW 8)) (fCons (f2 oIxA (fVarW 2) (fTup (fCons (fVar 7) (fCons (fVar 8) fNil)))) fNil)))) (fSeq asL (fC (c1 oSorted) (fCons (fVarW 2) fNil))))) (gSeq (gSet 5 (fMeth cY "gaps" (m_Yard_gaps cY) (fVarW 0) fNil)) (gSeq (gIf (fOr (fNot (fT (fIsi "list" (fVarW 5)))) (fT (f2 oNeA (fVarW 5) (fVarW 4)))) (gRet (fK (.bl false))) gNil) (gSeq (gU (uApp (plS 5) (fK .non))) (gSeq (gSet 6 (fMeth cY "names" (m_Yard_names cY) (fVarW 0) fNil)) (gSeq (gIf (fOr (fT (f2 oNeA (fVarW 6) (fVarW 1))) (fNot (fT (fIsi "list" (fVarW 6))))) (gRet (fK (.bl false))) gNil) (gSeq (gU (uApp (plS 6) (fK (.str "more")))) (gSeq (gIf (fT (f2 oGt (fC (c1 oLen) (fCons (fVarW 1) fNil)) (fK (.int 1)))) (gSeq (gSet 7 (f2 oMod (fVarW 3) (fC (c1 oLen) (fCons (fVarW 1) fNil)))) (gSeq (gSet 8 (f2 oMod (f2 oAddA (f2 oAddA (fVarW 7) (fK (.int 1))) (f2 oMod (f2 oDiv (fVarW 3) (fK (.int 20))) (f2 oSub (fC (c1 oLen) (fCons (fVarW 1) fNil)) (fK (.int 1))))) (fC (c1 oLen) (fCons (fVarW 1) fNil)))) (gSeq (gIf (fT (f2 oNeA (fMeth cY "most" (m_Yard_most cY) (fVarW 0) (fCons (f2 oIxA (fVarW 1) (fVarW 7)) (fCons (f2 oIxA (fVarW 1) (fVarW 8)) fNil))) (fGet (fVarW 2) (fTup (fCons (fVar 7) (fCons (fVar 8) fNil)))))) (gRet (fK (.bl false))) gNil) (gIf (fT (f2 oNeA (fMeth cY "most" (m_Yard_most cY) (fVarW 0) (fCons (f2 oIxA (fVarW 1) (fVarW 8)) (fCons (f2 oIxA (fVarW 1) (fVarW 7)) fNil))) (fGet (fVarW 2) (fTup (fCons (fVar 8) (fCons (fVar 7) fNil)))))) (gRet (fK (.bl false))) gNil)))) gNil) (gRet (fAndV (f2 oEq (fMeth cY "gaps" (m_Yard_gaps cY) (fVarW 0) fNil) (fVarW 4)) (f2 oEq (fMeth cY "names" (m_Yard_names cY) (fVarW 0) fNil) (fVarW 1))))))))))))
def m__law_right (cY : Addr) : List D → M Sv := runG N__law_right 4 (g__law_right cY)
theorem ok__law_right (A : At K mg "_law_right" "_law_right" s__law_right) (T : Bt mg) (C : Ct mg) (Y : Yo K mg cY) (c_Yard_gaps : MCal P w K mg base cY "gaps" P_Yard_gaps 2 (m_Yard_gaps cY)) (c_Yard_names : MCal P w K mg base cY "names" P_Yard_names 1 (m_Yard_names cY)) (c_Yard_most : MCal P w K mg base cY "most" P_Yard_most 4 (m_Yard_most cY)) : Cal P w K mg base "_law_right" P__law_right 5 (m__law_right cY) := cal_of A (fun _ _ _ _ _ _ us hl => match us, hl with | [_, _, _, _], _ => rfl) sc__law_right (fun cdv A outer s H E hr tk =>
  sd_cons (sd_setLc 4 (own := [("_law_one", 7), ("_law_other", 8)]) [7, 8] rfl sc__law_right.nd rfl rfl (sw_true rfl rfl rfl (by decide +kernel)) (pi_l (pd_callB (cr_sortedDT rfl) vSorted (by rfl) T.sorted (by decide +kernel) (pd_consw (pd_varW (pv 2)) (pd_nilw)))) (blkOk_by (N := N__law_right) (sc := defScope s__law_right) (by decide +kernel)) (fun _ _ _ _ _ => pg_t rfl (PNs.cons (pgn 7 sc__law_right.nd) (PNs.cons (pgn 8 sc__law_right.nd) (PNs.nil) rfl) rfl)) (fun _ _ _ _ _ => pts_0) (fun _ _ _ _ _ => pd_tup (pd_cons (pd_sub (hu_of hr) (pd_varW (pv 1)) (pd_varW (pv 7))) (pd_cons (pd_sub (hu_of hr) (pd_varW (pv 1)) (pd_varW (pv 8))) (pd_cons (pd_sub (hu_of hr) (pd_varW (pv 2)) (pd_w (pd_tup (pd_cons (pd_var (pv 7)) (pd_cons (pd_var (pv 8)) (pd_nil)))))) (pd_nil)))))) (sd_cons (sd_set 5 sc__law_right.nd rfl (by first | exact .inl rfl | exact .inr rfl) (pd_mcal0 c_Yard_gaps Y.cl (hr.mono (by decide)) tk (pd_varW (pv 0)))) (sd_cons (sd_if (PW.pt (pw_o (pt_n (pt_v (pd_w (pd_isi (x := "list") (T := "list") (pd_varW (pv 5)) (by rfl) T.isinstance (by rfl) T.list (by decide +kernel))))) (pw_o1 (pt_cmp2 (op_neA hr.units) vNeA (pd_varW (pv 5)) (pd_varW (pv 4)) (nomark _))))) (sd_one (sd_ret (pd_bl))) (sd_nil)) (sd_cons (su_drop (pu_app (pl_var (pv 5)) (pd_non))) (sd_cons (sd_set 6 sc__law_right.nd rfl (by first | exact .inl rfl | exact .inr rfl) (pd_mcal0 c_Yard_names Y.cl (hr.mono (by decide)) tk (pd_varW (pv 0)))) (sd_cons (sd_if (PW.pt (pw_o (pt_cmp2 (op_neA hr.units) vNeA (pd_varW (pv 6)) (pd_varW (pv 1)) (nomark _)) (pw_o1 (pt_n (pt_v (pd_w (pd_isi (x := "list") (T := "list") (pd_varW (pv 6)) (by rfl) T.isinstance (by rfl) T.list (by decide +kernel)))))))) (sd_one (sd_ret (pd_bl))) (sd_nil)) (sd_cons (su_drop (pu_app (pl_var (pv 6)) (pd_str))) (sd_cons (sd_if (pt_cmp2 op_gt vB (pd_w (pd_callB call_len' vLen (by rfl) T.len PySem.boot_len (pd_consw (pd_varW (pv 1)) (pd_nilw)))) (pd_w (pd_int)) (nomark _)) (sd_cons (sd_set 7 sc__law_right.nd rfl (by first | exact .inl rfl | exact .inr rfl) (pd_op op_mod vMod (pd_varW (pv 3)) (pd_w (pd_callB call_len' vLen (by rfl) T.len PySem.boot_len (pd_consw (pd_varW (pv 1)) (pd_nilw)))))) (sd_cons (sd_set 8 sc__law_right.nd rfl (by first | exact .inl rfl | exact .inr rfl) (pd_op op_mod vMod (pd_w (pd_op op_addA vAddA (pd_w (pd_op op_addA vAddA (pd_varW (pv 7)) (pd_w (pd_int)))) (pd_w (pd_op op_mod vMod (pd_w (pd_op op_fdiv vDiv (pd_varW (pv 3)) (pd_w (pd_int)))) (pd_w (pd_op op_sub vSub (pd_w (pd_callB call_len' vLen (by rfl) T.len PySem.boot_len (pd_consw (pd_varW (pv 1)) (pd_nilw)))) (pd_w (pd_int)))))))) (pd_w (pd_callB call_len' vLen (by rfl) T.len PySem.boot_len (pd_consw (pd_varW (pv 1)) (pd_nilw)))))) (sd_cons (sd_if (pt_cmp2 (op_neA hr.units) vNeA (pd_w (pd_mcal c_Yard_most Y.cl (hr.mono (by decide)) tk (pd_varW (pv 0)) (pd_consw (pd_w (pd_sub (hu_of hr) (pd_varW (pv 1)) (pd_varW (pv 7)))) (pd_consw (pd_w (pd_sub (hu_of hr) (pd_varW (pv 1)) (pd_varW (pv 8)))) (pd_nilw))))) (pd_w (pd_get (hu_of hr) (pd_varW (pv 2)) (pd_w (pd_tup (pd_cons (pd_var (pv 7)) (pd_cons (pd_var (pv 8)) (pd_nil))))))) (nomark _)) (sd_one (sd_ret (pd_bl))) (sd_nil)) (sd_one (sd_if (pt_cmp2 (op_neA hr.units) vNeA (pd_w (pd_mcal c_Yard_most Y.cl (hr.mono (by decide)) tk (pd_varW (pv 0)) (pd_consw (pd_w (pd_sub (hu_of hr) (pd_varW (pv 1)) (pd_varW (pv 8)))) (pd_consw (pd_w (pd_sub (hu_of hr) (pd_varW (pv 1)) (pd_varW (pv 7)))) (pd_nilw))))) (pd_w (pd_get (hu_of hr) (pd_varW (pv 2)) (pd_w (pd_tup (pd_cons (pd_var (pv 8)) (pd_cons (pd_var (pv 7)) (pd_nil))))))) (nomark _)) (sd_one (sd_ret (pd_bl))) (sd_nil)))))) (sd_nil)) (sd_one (sd_ret (pd_and (pd_w (pd_cmp (op_eqD hr.units) vEq (pd_w (pd_mcal0 c_Yard_gaps Y.cl (hr.mono (by decide)) tk (pd_varW (pv 0)))) (pd_varW (pv 4)) (nomark _))) (pd_one (pd_cmp (op_eqD hr.units) vEq (pd_w (pd_mcal0 c_Yard_names Y.cl (hr.mono (by decide)) tk (pd_varW (pv 0)))) (pd_varW (pv 1)) (nomark _))))))))))))))
abbrev s_law : Stmt := top 23
abbrev N_law : List Str := ["_law_script", "_law_many_here", "_law_names_here", "_law_yards", "_law_k", "_law_handed", "_law_helds", "_law_at", "_law_cell", "_law_draw_here", "_law_who", "_law_held", "_law_one", "_law_other", "_law_most"]
abbrev P_law : List Str := ["_law_script"]
theorem sc_law : FnScope N_law P_law (defScope s_law) := ⟨rfl, rfl, rfl, by decide +kernel, rfl, by decide +kernel, by decide +kernel⟩
def g_law (cY : Addr) : Gs := (gSeq (gSet 1 (fCall (m__law_many cY) (fCons (fVarW 0) fNil))) (gSeq (gSet 2 (fCall (m__law_names cY) (fCons (fCall (m__law_draw cY) (fCons (fVarW 0) (fCons (fK (.int 0)) fNil))) (fCons (fVarW 1) fNil)))) (gSeq (gSet 3 (fLst 2 fNil)) (gSeq (gFor (gN 4) (fRg asR1 (fCons (fK (.int 2)) fNil)) (gSeq (gSet 5 (fC (c1 oList) (fCons (fVarW 2) fNil))) (gSeq (gU (uApp (plS 3) (fMake cY 1 (m_Yard___init__ cY) (fCons (fVarW 5) fNil)))) (gU (uApp (plS 5) (fK (.str "more"))))))) (gSeq (gSet 6 (fLst 1 (fCons (fNewT) (fCons (fNewT) fNil)))) (gSeq (gFor (gT [7, 8]) (fSeq asEn (fSl oSlL (fVarW 0) (fO1 (fK (.int 3))) (fO1 (fK (.int 63))))) (gSeq (gSet 9 (fCall (m__law_spread cY) (fCons (fVarW 8) (fCons (fVarW 7) fNil)))) (gSeq (gSet 10 (f2 oDiv (f2 oMod (f2 oDiv (fVarW 9) (fK (.int 7))) (fK (.int 5))) (fK (.int 4)))) (gAl 6 11 (fVarW 10) (gSeq (gIf (fAnd (fT (f2 oGt (fVarW 1) (fK (.int 1)))) (fT (f2 oGt (f2 oMod (fVarW 9) (fK (.int 4))) (fK (.int 0))))) (gSeq (gSet 12 (f2 oMod (f2 oDiv (fVarW 9) (fK (.int 11))) (fVarW 1))) (gSeq (gSet 13 (f2 oMod (f2 oAddA (f2 oAddA (fVarW 12) (fK (.int 1))) (f2 oMod (f2 oDiv (fVarW 9) (fK (.int 220))) (f2 oSub (fVarW 1) (fK (.int 1))))) (fVarW 1))) (gSeq (gSet 14 (f2 oIxA (fLst 0 (fCons (f2 oMod (fVarW 8) (f2 oPow (fK (.int 10)) (fK (.int 60)))) (fCons (f1 oNeg (f2 oMod (fVarW 8) (f2 oPow (fK (.int 10)) (fK (.int 60))))) (fCons (f2 oSub (f2 oMod (fVarW 9) (fK (.int 100))) (fK (.int 50))) (fCons (f2 oPow (fK (.int 10)) (fK (.int 60))) fNil))))) (f2 oMod (f2 oDiv (fVarW 9) (fK (.int 5000))) (fK (.int 4))))) (gSeq (gIfU oNeA (uMeth cY "put" 2 (m_Yard_put cY) (plE 3 (fVarW 10)) (fCons (f2 oIxA (fVarW 2) (fVarW 12)) (fCons (f2 oIxA (fVarW 2) (fVarW 13)) (fCons (fVarW 14) fNil)))) (fGet (fVarW 11) (fTup (fCons (fVar 12) (fCons (fVar 13) fNil)))) (gRet (fK (.bl false))) gNil) (gU (uItem (plS 11) (fVar 14) (fTup (fCons (fVar 12) (fCons (fVar 13) fNil))))))))) (gIf (fT (f2 oNeA (fVarW 11) (fNewT))) (gSeq (gAsg (gT [12, 13]) (f2 oIxA (fC (c1 oSorted) (fCons (fVarW 11) fNil)) (f2 oMod (f2 oDiv (fVarW 9) (fK (.int 11))) (fC (c1 oLen) (fCons (fVarW 11) fNil))))) (gIfUU oNeA (uMeth cY "take" 2 (m_Yard_take cY) (plE 3 (fVarW 10)) (fCons (f2 oIxA (fVarW 2) (fVarW 12)) (fCons (f2 oIxA (fVarW 2) (fVarW 13)) fNil))) (uPopD (plS 11) (fTup (fCons (fVar 12) (fCons (fVar 13) fNil)))) (gRet (fK (.bl false))) gNil)) gNil)) (gIf (fNot (fT (fCall (m__law_right cY) (fCons (f2 oIxN (fVarW 3) (fVarW 10)) (fCons (fVarW 2) (fCons (fVarW 11) (fCons (f2 oDiv (fVarW 9) (fK (.int 13))) fNil))))))) (gRet (fK (.bl false))) gNil)))))) (gRet (fAndV (fCall (m__law_right cY) (fCons (f2 oIxN (fVarW 3) (fK (.int 0))) (fCons (fVarW 2) (fCons (f2 oIxN (fVarW 6) (fK (.int 0))) (fCons (fK (.int 5)) fNil))))) (fCall (m__law_right cY) (fCons (f2 oIxN (fVarW 3) (fK (.int 1))) (fCons (fVarW 2) (fCons (f2 oIxN (fVarW 6) (fK (.int 1))) (fCons (fK (.int 6)) fNil)))))))))))))
def m_law (cY : Addr) : List D → M Sv := runG N_law 1 (g_law cY)
theorem ok_law {f : Addr} {fd : FuncData} (F : Fun K "law" "law" s_law f fd) (T : Bt mg) (C : Ct mg) (Y : Yo K mg cY) (c__law_many : Cal P w K mg base "_law_many" P__law_many 2 (m__law_many cY)) (c__law_draw : Cal P w K mg base "_law_draw" P__law_draw 1 (m__law_draw cY)) (c__law_names : Cal P w K mg base "_law_names" P__law_names 2 (m__law_names cY)) (c_Yard___init__ : ICal P w K mg base cY P_Yard___init__ 2 1 (m_Yard___init__ cY)) (c_Yard_put : UCal P w K mg base cY "put" P_Yard_put 4 2 (m_Yard_put cY)) (c_Yard_take : UCal P w K mg base cY "take" P_Yard_take 4 2 (m_Yard_take cY)) (c__law_right : Cal P w K mg base "_law_right" P__law_right 5 (m__law_right cY)) (c__law_spread : Cal P w K mg base "_law_spread" P__law_spread 1 (m__law_spread cY)) : FnOk P w K mg base (L2.CX P w) 6 f fd P_law (spD K (m_law cY)) := fn_of F sc_law (fun cdv A outer s H E hr tk =>
  sd_cons (sd_set 1 sc_law.nd rfl (by first | exact .inl rfl | exact .inr rfl) (pd_cal c__law_many (hr.mono (by decide)) tk (pd_consw (pd_varW (pv 0)) (pd_nilw)))) (sd_cons (sd_set 2 sc_law.nd rfl (by first | exact .inl rfl | exact .inr rfl) (pd_cal c__law_names (hr.mono (by decide)) tk (pd_consw (pd_w (pd_cal c__law_draw (hr.mono (by decide)) tk (pd_consw (pd_varW (pv 0)) (pd_consw (pd_w (pd_int)) (pd_nilw))))) (pd_consw (pd_varW (pv 1)) (pd_nilw))))) (sd_cons (sd_set 3 sc_law.nd rfl (by first | exact .inl rfl | exact .inr rfl) (pd_lst 2 (pd_nil))) (sd_cons (sd_for (passes_of rfl) rfl (pi_rg1 (by rfl) T.range (pd_consw (pd_w (pd_int)) (pd_nilw))) (pg_n (pgn 4 sc_law.nd)) (sd_cons (sd_set 5 sc_law.nd rfl (by first | exact .inl rfl | exact .inr rfl) (pd_callTy call_list_of vList (by rfl) T.list (by decide +kernel) (pd_consw (pd_varW (pv 2)) (pd_nilw)))) (sd_cons (su_drop (pu_app (pl_var (pv 3)) (pd_ical c_Yard___init__ Y.at_ (hr.mono (by decide)) tk (pd_consw (pd_varW (pv 5)) (pd_nilw))))) (sd_one (su_drop (pu_app (pl_var (pv 5)) (pd_str))))))) (sd_cons (sd_set 6 sc_law.nd rfl (by first | exact .inl rfl | exact .inr rfl) (pd_lst 1 (pd_cons (pd_newT) (pd_cons (pd_newT) (pd_nil))))) (sd_cons (sd_for (passes_of rfl) rfl (pi_en (by rfl) T.enumerate (pd_sl sl_list vSlL (pd_varW (pv 0)) (po_s (pd_w (pd_int))) (po_s (pd_w (pd_int))))) (pg_t rfl (PNs.cons (pgn 7 sc_law.nd) (PNs.cons (pgn 8 sc_law.nd) (PNs.nil) rfl) rfl)) (sd_cons (sd_set 9 sc_law.nd rfl (by first | exact .inl rfl | exact .inr rfl) (pd_cal c__law_spread (hr.mono (by decide)) tk (pd_consw (pd_varW (pv 8)) (pd_consw (pd_varW (pv 7)) (pd_nilw))))) (sd_cons (sd_set 10 sc_law.nd rfl (by first | exact .inl rfl | exact .inr rfl) (pd_op op_fdiv vDiv (pd_w (pd_op op_mod vMod (pd_w (pd_op op_fdiv vDiv (pd_varW (pv 9)) (pd_w (pd_int)))) (pd_w (pd_int)))) (pd_w (pd_int)))) (sd_alias (i := 6) (j := 11) (by decide) sc_law.nd rfl (by first | exact .inl rfl | exact .inr rfl) (pv 6) (pd_varW (pv 10)) (sd_cons (sd_if (PW.pt (pw_a (pt_cmp2 op_gt vB (pd_varW (pv 1)) (pd_w (pd_int)) (nomark _)) (pw_a1 (pt_cmp2 op_gt vB (pd_w (pd_op op_mod vMod (pd_varW (pv 9)) (pd_w (pd_int)))) (pd_w (pd_int)) (nomark _))))) (sd_cons (sd_set 12 sc_law.nd rfl (by first | exact .inl rfl | exact .inr rfl) (pd_op op_mod vMod (pd_w (pd_op op_fdiv vDiv (pd_varW (pv 9)) (pd_w (pd_int)))) (pd_varW (pv 1)))) (sd_cons (sd_set 13 sc_law.nd rfl (by first | exact .inl rfl | exact .inr rfl) (pd_op op_mod vMod (pd_w (pd_op op_addA vAddA (pd_w (pd_op op_addA vAddA (pd_varW (pv 12)) (pd_w (pd_int)))) (pd_w (pd_op op_mod vMod (pd_w (pd_op op_fdiv vDiv (pd_varW (pv 9)) (pd_w (pd_int)))) (pd_w (pd_op op_sub vSub (pd_varW (pv 1)) (pd_w (pd_int)))))))) (pd_varW (pv 1)))) (sd_cons (sd_set 14 sc_law.nd rfl (by first | exact .inl rfl | exact .inr rfl) (pd_sub (hu_of hr) (pd_w (pd_lst 0 (pd_cons (pd_op op_mod vMod (pd_varW (pv 8)) (pd_w (pd_op op_pow vPow (pd_w (pd_int)) (pd_w (pd_int))))) (pd_cons (pd_un un_neg vNeg (pd_w (pd_op op_mod vMod (pd_varW (pv 8)) (pd_w (pd_op op_pow vPow (pd_w (pd_int)) (pd_w (pd_int))))))) (pd_cons (pd_op op_sub vSub (pd_w (pd_op op_mod vMod (pd_varW (pv 9)) (pd_w (pd_int)))) (pd_w (pd_int))) (pd_cons (pd_op op_pow vPow (pd_w (pd_int)) (pd_w (pd_int))) (pd_nil))))))) (pd_w (pd_op op_mod vMod (pd_w (pd_op op_fdiv vDiv (pd_varW (pv 9)) (pd_w (pd_int)))) (pd_w (pd_int)))))) (sd_cons (sd_ifU (op_neA hr.units) vNeA (pu_ucal c_Yard_put Y.cl (hr.mono (by decide)) tk (pl_ix (W := W0) (pv 3) (pd_varW (pv 10))) (pd_consw (pd_w (pd_sub (hu_of hr) (pd_varW (pv 2)) (pd_varW (pv 12)))) (pd_consw (pd_w (pd_sub (hu_of hr) (pd_varW (pv 2)) (pd_varW (pv 13)))) (pd_consw (pd_varW (pv 14)) (pd_nilw))))) (pd_w (pd_get (hu_of hr) (pd_varW (pv 11)) (pd_w (pd_tup (pd_cons (pd_var (pv 12)) (pd_cons (pd_var (pv 13)) (pd_nil))))))) (nomark _) (sd_one (sd_ret (pd_bl))) (sd_nil)) (sd_one (sd_item (hu_of hr) (pd_var (pv 14)) (pl_var (pv 11)) (pd_w (pd_tup (pd_cons (pd_var (pv 12)) (pd_cons (pd_var (pv 13)) (pd_nil))))))))))) (sd_one (sd_if (pt_cmp2 (op_neA hr.units) vNeA (pd_varW (pv 11)) (pd_w (pd_newT)) (nomark _)) (sd_cons (sd_asg (pd_sub (hu_of hr) (pd_w (pd_callB (cr_sortedDT rfl) vSorted (by rfl) T.sorted (by decide +kernel) (pd_consw (pd_varW (pv 11)) (pd_nilw)))) (pd_w (pd_op op_mod vMod (pd_w (pd_op op_fdiv vDiv (pd_varW (pv 9)) (pd_w (pd_int)))) (pd_w (pd_callB call_len' vLen (by rfl) T.len PySem.boot_len (pd_consw (pd_varW (pv 11)) (pd_nilw))))))) (pg_t rfl (PNs.cons (pgn 12 sc_law.nd) (PNs.cons (pgn 13 sc_law.nd) (PNs.nil) rfl) rfl))) (sd_one (sd_ifUU (op_neA hr.units) vNeA (pu_ucal c_Yard_take Y.cl (hr.mono (by decide)) tk (pl_ix (W := W0) (pv 3) (pd_varW (pv 10))) (pd_consw (pd_w (pd_sub (hu_of hr) (pd_varW (pv 2)) (pd_varW (pv 12)))) (pd_consw (pd_w (pd_sub (hu_of hr) (pd_varW (pv 2)) (pd_varW (pv 13)))) (pd_nilw)))) (pu_pop (hu_of hr) (pl_var (pv 11)) (pd_w (pd_tup (pd_cons (pd_var (pv 12)) (pd_cons (pd_var (pv 13)) (pd_nil)))))) (nomark _) (sd_one (sd_ret (pd_bl))) (sd_nil)))) (sd_nil)))) (sd_one (sd_if (pt_n (pt_v (pd_w (pd_cal c__law_right (hr.mono (by decide)) tk (pd_consw (pw_ixN (pd_varW (pv 3)) (pd_varW (pv 10))) (pd_consw (pd_varW (pv 2)) (pd_consw (pd_varW (pv 11)) (pd_consw (pd_w (pd_op op_fdiv vDiv (pd_varW (pv 9)) (pd_w (pd_int)))) (pd_nilw))))))))) (sd_one (sd_ret (pd_bl))) (sd_nil)))))))) (sd_one (sd_ret (pd_and (pd_w (pd_cal c__law_right (hr.mono (by decide)) tk (pd_consw (pw_ixN (pd_varW (pv 3)) (pd_w (pd_int))) (pd_consw (pd_varW (pv 2)) (pd_consw (pw_ixN (pd_varW (pv 6)) (pd_w (pd_int))) (pd_consw (pd_w (pd_int)) (pd_nilw))))))) (pd_one (pd_cal c__law_right (hr.mono (by decide)) tk (pd_consw (pw_ixN (pd_varW (pv 3)) (pd_w (pd_int))) (pd_consw (pd_varW (pv 2)) (pd_consw (pw_ixN (pd_varW (pv 6)) (pd_w (pd_int))) (pd_consw (pd_w (pd_int)) (pd_nilw))))))))))))))))
end
end G2
set_option maxHeartbeats 1000000
namespace G2
open PySem L2 DP
variable {cY : Addr}
abbrev big : Int := 1000000000000000000000000000000000000000000000000000000000000
abbrev lets : List Nat := cs "abcdefghijklmnopqrstuvwxyz"
theorem whole_i (n : Int) : m_is_whole cY [.int n] = some (.ok (0, .bl true)) := rfl
theorem number_i (n : Int) : m_is_number cY [.int n] = some (.ok (0, .bl (decide (-big ≤ n) && decide (n ≤ big)))) := by
  by_cases h : -big ≤ n <;> simp [m_is_number, runG, g_is_number, env0, whole_i, h] <;> rfl
theorem sg_len (x : Str) : (sgD x).length = x.length := by
  show (x.cps.toList.map _).length = _
  rw [List.length_map]
  exact cs_len x
def nameB (x : Str) : Bool := (decide ((1 : Int) ≤ x.length) && decide ((x.length : Int) ≤ 8)) && (cs x).all fun c => decide (c ∈ lets)
theorem name_s (x : Str) (h : x.length ≤ 10000) : m_is_name cY [.str x] = some (.ok (0, .bl (nameB x))) := by
  have h1 := lcF_mapc (fun c => D.str ⟨#[c]⟩) (t := gN 1) (e := f2 (oInA false) (fVarW 1) (fK (.str "abcdefghijklmnopqrstuvwxyz"))) (env := [some (0, .str x), none]) (fun c => .bl (decide (c ∈ lets))) (cs x) fun c m => ⟨_, rfl, by simp <;> rfl⟩
  have h2 : ((cs x).map fun c => D.str ⟨#[c]⟩) = sgD x := rfl
  rw [h2] at h1
  have h3 : x.length ≤ sizeLine := small_le (by omega)
  unfold nameB
  by_cases a : (1 : Int) ≤ x.length
  · by_cases b : (x.length : Int) ≤ 8
    · simp [m_is_name, runG, g_is_name, env0, len_s h3, wipeE, h1, all_map, sg_len, h3, a, b] <;> rfl
    · simp [m_is_name, runG, g_is_name, env0, len_s h3, wipeE, h1, all_map, sg_len, h3, a, b] <;> rfl
  · simp [m_is_name, runG, g_is_name, env0, len_s h3, wipeE, h1, all_map, sg_len, h3, a] <;> rfl
theorem name_ok {ns : List Str} (N : Nms ns) {x : Str} (m : x ∈ ns) : m_is_name cY [.str x] = some (.ok (0, .bl true)) := by
  obtain ⟨a, b, c⟩ := N.ok x m
  rw [name_s x (by omega)]
  have : nameB x = true := by
    unfold nameB
    rw [decide_eq_true (by omega), decide_eq_true (by omega), List.all_eq_true.mpr (fun y my => decide_eq_true (c y my))]
    rfl
  rw [this]
/-! ### the yard -/
section
variable {ns : List Str} {h : Hd}
theorem init_ok (N : Nms ns) : m_Yard___init__ cY [.ins cY [] [], nD ns] = some (.ok (.non, yD cY ns [])) := by
  have h1 := lcF_mapc D.str (t := gN 2) (e := fCall (m_is_name cY) (fCons (fVarW 2) fNil)) (env := [some (2, .ins cY [] []), some (0, nD ns), none]) (fun _ => .bl true) ns fun x m => ⟨_, rfl, by simp [name_ok N m] <;> rfl⟩
  have h0 : (D.lst (ns.map D.str)) = nD ns := rfl
  have hl : ns.length ≤ sizeLine := small_le (by have := N.most; omega)
  have a : (1 : Int) ≤ ns.length := by have := N.one; omega
  have b : (ns.length : Int) ≤ 20 := by have := N.most; omega
  have ha : oAll (1, .lst (ns.map fun _ => D.bl true)) = some (0, .bl true) := by
    rw [all_map (fun _ => true)]; simp
  have i1 : oIsi "list" (0, nD ns) = some (0, .bl true) := rfl
  have l1 : asL (0, nD ns) = some (.ok (ns.map D.str)) := rfl
  unfold m_Yard___init__ runU g_Yard___init__ envU
  simp [i1, len_n, a, b, l1, wipeE, h1, ha, hl, lenSet_n (Nat.zero_le 1) N, list_n (Nat.zero_le 1)]
  simp [stFld, self0]
  rfl
theorem names_ok : m_Yard_names cY [yD cY ns h] = some (.ok (1, nD ns)) := by
  simp [m_Yard_names, runG, g_Yard_names, env0, list_n] <;> rfl
theorem place_ok {x : Str} (m : x ∈ ns) : m_Yard_place_of cY [yD cY ns h, .str x] = some (.ok (0, .int (ns.idxOf x : Nat))) := by
  have t1 : ∀ n, tyM (n, nD ns) = some "list" := fun _ => rfl
  simp [m_Yard_place_of, runG, g_Yard_place_of, env0, in_n, m, t1, index_n (Nat.zero_le 1) m] <;> rfl
theorem places_ok (N : Nms ns) {x y : Str} (mx : x ∈ ns) (my : y ∈ ns) : m_Yard_places cY [yD cY ns h, .str x, .str y] = some (.ok (0, .tup [.int (ns.idxOf x : Nat), .int (ns.idxOf y : Nat)])) := by
  have t : ∀ a b : Int, oTup [(0, .int a), (0, .int b)] = some (0, .tup [.int a, .int b]) := fun _ _ => rfl
  simp [m_Yard_places, runG, g_Yard_places, env0, name_ok N mx, name_ok N my, ins_y "place_of", place_ok mx, place_ok my, t] <;> rfl
theorem pair_ok (N : Nms ns) {x y : Str} (mx : x ∈ ns) (my : y ∈ ns) (hne : x ≠ y) : m_Yard_pair_of cY [yD cY ns h, .str x, .str y] = some (.ok (0, .tup [.int (ns.idxOf x : Nat), .int (ns.idxOf y : Nat)])) := by
  have e : ¬ ((ns.idxOf x : Nat) : Int) = ((ns.idxOf y : Nat) : Int) := by have := idx_ne mx my hne; omega
  have c : ∀ (xs : List Sv) (a b : Int), clR xs (some (.ok (0, .tup [.int a, .int b]))) = some (.ok (0, .tup [.int a, .int b])) := fun xs a b => clRf rfl
  simp [m_Yard_pair_of, runG, g_Yard_pair_of, env0, ins_y "places", places_ok N mx my, c, ix_t0, ix_t1, eq_i, e] <;> rfl
abbrev ixP (ns : List Str) (x y : Str) : PI2 := ((ns.idxOf x : Nat), (ns.idxOf y : Nat))
abbrev oldD (h : Hd) (p : PI2) : D := ((hGet h p).map D.int).getD .non
theorem clR_p (xs : List Sv) (a b : Int) : clR xs (some (.ok (0, .tup [.int a, .int b]))) = some (.ok (0, .tup [.int a, .int b])) := clRf rfl
theorem clR_o (xs : List Sv) (h : Hd) (p : PI2) : clR xs (some (.ok (0, oldD h p))) = some (.ok (0, oldD h p)) := clRf (by
  show flatT (oldD h p) = true
  unfold oldD
  cases hGet h p <;> rfl)
theorem put_ok (N : Nms ns) {x y : Str} (mx : x ∈ ns) (my : y ∈ ns) (hne : x ≠ y) {v : Int} (h1 : -big ≤ v) (h2 : v ≤ big) (hl : h.length ≤ 1000) :
    m_Yard_put cY [yD cY ns h, .str x, .str y, .int v] = some (.ok (oldD h (ixP ns x y), yD cY ns (hPut h (ixP ns x y) v))) := by
  have hl2 : h.length < sizeLine := Nat.lt_of_lt_of_le (show h.length < 2000 by omega) (small_le (by decide))
  unfold m_Yard_put runU g_Yard_put envU
  simp [ins_y "pair_of", pair_ok N mx my hne, clR_p, number_i, h1, h2, isDct_h, get_h]
  rw [plF_held (ns := ns) (h := h) rfl]
  simp [st_h hl2, self0]
theorem take_ok (N : Nms ns) {x y : Str} (mx : x ∈ ns) (my : y ∈ ns) (hne : x ≠ y) {v : Int} (hg : hGet h (ixP ns x y) = some v) :
    m_Yard_take cY [yD cY ns h, .str x, .str y] = some (.ok (.int v, yD cY ns (hDel h (ixP ns x y)))) := by
  unfold m_Yard_take runU g_Yard_take envU
  simp [ins_y "pair_of", pair_ok N mx my hne, clR_p, in_h, hg]
  rw [plF_held (ns := ns) (h := h) rfl]
  have hD1 : asDct (1, hD h) = some (hD h) := rfl
  simp [hD1, pop_h hg, self0]
theorem most_ok (N : Nms ns) {x y : Str} (mx : x ∈ ns) (my : y ∈ ns) (hne : x ≠ y) : m_Yard_most cY [yD cY ns h, .str x, .str y] = some (.ok (0, oldD h (ixP ns x y))) := by
  simp [m_Yard_most, runG, g_Yard_most, env0, ins_y "pair_of", pair_ok N mx my hne, clR_p, isDct_h, get_h] <;> rfl
def vOf (h : Hd) (p : PI2) : Int := (hGet h p).getD 0
abbrev keysH (h : Hd) : List PI2 := sortP (h.map (·.1))
theorem keys_mem {p : PI2} : p ∈ keysH h ↔ p ∈ h.map (·.1) := (sortP_perm _).mem_iff
theorem keys_get {p : PI2} (m : p ∈ keysH h) : hGet h p = some (vOf h p) := by
  obtain ⟨v, e⟩ := hGet_some (keys_mem.mp m)
  rw [show vOf h p = v by unfold vOf; rw [e]; rfl, e]
def stepD (h : Hd) (p : PI2) : D := .tup [.int p.1, .int p.2, .int (vOf h p)]
theorem keys_len (h : Hd) : (keysH h).length = h.length := by rw [(sortP_perm _).length_eq, List.length_map]
theorem steps_ok (hl : h.length ≤ 1000) : m_Yard_steps cY [yD cY ns h] = some (.ok (1, .lst ((keysH h).map (stepD h)))) := by
  have h1 := lcF_mapc tupP (t := gN 1) (e := f2 oAddA (fVarW 1) (fTup (fCons (f2 oIxA (fFld cY "held" (fVarW 0)) (fVarW 1)) fNil))) (env := [some (0, yD cY ns h), none]) (stepD h) (keysH h) fun p m => ⟨_, rfl, by
    have t1 : ∀ v : Int, oTup [(0, .int v)] = some (0, .tup [.int v]) := fun _ => rfl
    have t2 : ∀ v : Int, oAddA (0, tupP p) (0, .tup [.int v]) = some (0, .tup [.int p.1, .int p.2, .int v]) := fun v => addA_t (by simp) (by simp) (small_le (by simp))
    have t3 : oIxA (0, hD h) (0, tupP p) = some (0, .int (vOf h p)) := ix_h (Nat.zero_le 1) (keys_get m)
    simp [t3, t1, t2] <;> rfl⟩
  have l : ((keysH h).map tupP).length ≤ sizeLine := by rw [List.length_map, keys_len]; exact small_le (by omega)
  have l2 : (keysH h).length ≤ sizeLine := by rw [keys_len]; exact small_le (by omega)
  simp [m_Yard_steps, runG, g_Yard_steps, env0, sorted_h (Nat.zero_le 1), wipeE, h1, l2] <;> rfl
def nmOf (ns : List Str) (i : Int) : Str := ns.getD i.toNat Str.empty
def gapD (ns : List Str) (h : Hd) (p : PI2) : D := .tup [.str (nmOf ns p.1), .str (nmOf ns p.2), .int (vOf h p)]
def HK (ns : List Str) (h : Hd) : Prop := ∀ p ∈ h.map (·.1), 0 ≤ p.1 ∧ p.1 < (ns.length : Int) ∧ 0 ≤ p.2 ∧ p.2 < (ns.length : Int)
theorem ix_nm {n m : Nat} (hn : n ≤ 1) {i : Int} (h0 : 0 ≤ i) (h1 : i < (ns.length : Int)) : oIxA (n, nD ns) (m, .int i) = some (0, .str (nmOf ns i)) := by
  obtain ⟨k, rfl⟩ := Int.eq_ofNat_of_zero_le h0
  have hk : k < ns.length := by omega
  refine ix_n hn ?_
  show ns[k]? = some (ns.getD (Int.toNat (k : Int)) Str.empty)
  rw [Int.toNat_natCast, List.getD_eq_getElem?_getD, List.getElem?_eq_getElem hk]; rfl
theorem gaps_ok (hl : h.length ≤ 1000) (hk : HK ns h) : m_Yard_gaps cY [yD cY ns h] = some (.ok (1, .lst ((keysH h).map (gapD ns h)))) := by
  have h1 := lcF_mapc (stepD h) (t := gT [1, 2, 3]) (e := fTup (fCons (f2 oIxA (fFld cY "moments" (fVarW 0)) (fVarW 1)) (fCons (f2 oIxA (fFld cY "moments" (fVarW 0)) (fVarW 2)) (fCons (fVar 3) fNil)))) (env := [some (0, yD cY ns h), none, none, none]) (gapD ns h) (keysH h) fun p m => ⟨_, rfl, by
    obtain ⟨a, b, c, d⟩ := hk p (keys_mem.mp m)
    have t1 : ∀ (x y : Str) (v : Int), oTup [(0, .str x), (0, .str y), (0, .int v)] = some (0, .tup [.str x, .str y, .int v]) := fun _ _ _ => rfl
    simp [ix_nm, a, b, c, d, t1] <;> rfl⟩
  have l2 : (keysH h).length ≤ sizeLine := by rw [keys_len]; exact small_le (by omega)
  have c : ∀ xs : List Sv, lv0 xs = true → ∀ d : D, clR xs (some (.ok (1, d))) = some (.ok (1, d)) := fun xs h d => clR0 h
  simp [m_Yard_gaps, runG, g_Yard_gaps, env0, ins_y "steps", steps_ok hl, clR0, lv0, wipeE, h1, l2] <;> rfl
end
end G2
namespace G2
open PySem L2 DP
variable {cY : Addr}
theorem draw_ok (s : List Int) (k : Nat) : m__law_draw cY [.sl (s.map D.int), .int (k : Nat)] = some (.ok (0, .int (s.getD k 0))) := by
  by_cases c : k < s.length
  · obtain ⟨d, e, r⟩ := ixA_sl (n := 0) (m := 0) (xs := s.map D.int) (i := (k : Nat)) (by omega) (by rw [List.length_map]; omega)
    rw [Int.toNat_natCast, List.getElem?_map, List.getElem?_eq_getElem c] at e
    cases e
    rw [List.getD_eq_getElem?_getD, List.getElem?_eq_getElem c]
    simp [m__law_draw, runG, g__law_draw, env0, c, r] <;> rfl
  · rw [List.getD_eq_getElem?_getD, List.getElem?_eq_none (by omega)]
    simp [m__law_draw, runG, g__law_draw, env0, c] <;> rfl
def sprd (c k : Int) : Int := (c + 3) * (48271 + 2 * k * k + k) % 2147483647
theorem sprd_lt (c k : Int) : 0 ≤ sprd c k ∧ sprd c k < 2147483647 := ⟨Int.emod_nonneg _ (by decide), Int.emod_lt_of_pos _ (by decide)⟩
theorem spread_ok (c k : Int) (h0 : 0 ≤ k) (h1 : k ≤ 1000) : m__law_spread cY [.int c, .int k] = some (.ok (0, .int (sprd c k))) := by
  have hk : 0 ≤ 2 * k * k ∧ 2 * k * k ≤ 2000000 := by
    constructor
    · exact Int.mul_nonneg (by omega) h0
    · exact Int.le_trans (Int.mul_le_mul (show 2 * k ≤ 2000 by omega) h1 h0 (by omega)) (by decide)
  have e1 : oMulA (0, .int 2) (0, .int k) = some (0, .int (2 * k)) := mulA_i (.inl (by decide))
  have e2 : oMulA (0, .int (2 * k)) (0, .int k) = some (0, .int (2 * k * k)) := mulA_i (.inr (by omega))
  have e3 : oMulA (0, .int (c + 3)) (0, .int (48271 + 2 * k * k + k)) = some (0, .int ((c + 3) * (48271 + 2 * k * k + k))) := mulA_i (.inr (by omega))
  simp [m__law_spread, runG, g__law_spread, env0, e1, e2, e3, mod_i, sprd] <;> rfl
theorem many_ok (s : List Int) : ∃ m : Nat, 1 ≤ m ∧ m ≤ 20 ∧ m__law_many cY [.sl (s.map D.int)] = some (.ok (0, .int (m : Nat))) := by
  have d2 : m__law_draw cY [.sl (s.map D.int), .int 2] = some (.ok (0, .int (s.getD 2 0))) := draw_ok s 2
  obtain ⟨sd, es, qs⟩ := ixA_l (n := 1) (m := 0) (xs := [.int 1, .int 2, .int 3, .int 4, .int 5, .int 6, .int 7, .int 8, .int 6, .int 5, .int 12, .int 20]) (i := s.getD 2 0 % 12) (Nat.le_refl 1) (by omega) (by show s.getD 2 0 % 12 < (12 : Int); omega)
  obtain ⟨m, rfl, h1, h2⟩ : ∃ m : Nat, sd = .int (m : Nat) ∧ 1 ≤ m ∧ m ≤ 20 := by
    have mm := List.mem_of_getElem? es
    simp only [List.mem_cons, List.not_mem_nil, or_false] at mm
    rcases mm with rfl | rfl | rfl | rfl | rfl | rfl | rfl | rfl | rfl | rfl | rfl | rfl
    · exact ⟨1, rfl, by decide, by decide⟩
    · exact ⟨2, rfl, by decide, by decide⟩
    · exact ⟨3, rfl, by decide, by decide⟩
    · exact ⟨4, rfl, by decide, by decide⟩
    · exact ⟨5, rfl, by decide, by decide⟩
    · exact ⟨6, rfl, by decide, by decide⟩
    · exact ⟨7, rfl, by decide, by decide⟩
    · exact ⟨8, rfl, by decide, by decide⟩
    · exact ⟨6, rfl, by decide, by decide⟩
    · exact ⟨5, rfl, by decide, by decide⟩
    · exact ⟨12, rfl, by decide, by decide⟩
    · exact ⟨20, rfl, by decide, by decide⟩
  refine ⟨m, h1, h2, ?_⟩
  generalize hx : s.getD 2 0 = x at *
  have t8 : ∀ xs : List Sv, xs.length ≤ 12 → (xs.all fun x => x.1 == 0) = true → oLst 0 xs = some (1, .lst (xs.map (·.2))) := fun xs a b => oLst_ok b (small_le (by omega))
  have m12 : oMod (0, .int x) (0, .int 12) = some (0, .int (x % 12)) := mod_i (by decide)
  simp [m__law_many, runG, g__law_many, env0, d2, m12, t8, qs] <;> rfl
/-! ### names -/
def lt (i : Nat) : Nat := lets.getD i 0
theorem lets_len : lets.length = 26 := by decide
theorem lt_mem {i : Nat} (h : i < 26) : lt i ∈ lets := by
  unfold lt
  rw [List.getD_eq_getElem?_getD, List.getElem?_eq_getElem (by rw [lets_len]; exact h)]
  exact List.getElem_mem _
theorem lets_nodup : lets.Nodup := by decide
theorem lt_inj26 : ∀ i j : Fin 26, lt i = lt j → i = j := by decide +kernel
theorem lt_inj {i j : Nat} (hi : i < 26) (hj : j < 26) (h : lt i = lt j) : i = j := congrArg Fin.val (lt_inj26 ⟨i, hi⟩ ⟨j, hj⟩ h)
def ch (n : Nat) : Str := ⟨#[n]⟩
theorem ch_len (n : Nat) : (ch n).length = 1 := rfl
theorem cs_ch (n : Nat) : cs (ch n) = [n] := rfl
theorem let_ix {i : Int} (h0 : 0 ≤ i) (h1 : i < 26) : oIxA (0, .str "abcdefghijklmnopqrstuvwxyz") (0, .int i) = some (0, .str (ch (lt i.toNat))) := by
  obtain ⟨c, e, q⟩ := ixA_s (n := 0) (m := 0) (x := "abcdefghijklmnopqrstuvwxyz") (i := i) (small_le (by decide)) h0 (by
    have : (("abcdefghijklmnopqrstuvwxyz" : Str).cps.toList.length) = 26 := lets_len
    rw [this]; omega)
  rw [q]
  have : lt i.toNat = c := by
    unfold lt
    rw [List.getD_eq_getElem?_getD, show lets[i.toNat]? = some c from e]; rfl
  rw [this]; rfl
theorem join_chars (l : List Nat) : cs (Txt.join "" (l.map ch)) = l := by
  rw [cs_join0, List.map_map]
  induction l with
  | nil => rfl
  | cons x r ih => rw [List.map_cons, List.flatten_cons, ih]; rfl
theorem rg_k {n : Nat} (h : n ≤ 1000) : asR1 [(0, .int (n : Nat))] = some (.ok (rgD 0 n)) := by
  have := rg_ok (n := 0) (i := (n : Nat)) (by omega)
  rw [this, Int.toNat_natCast]
abbrev nmF (b : Bool) (W : Str) (a : Nat) : Str := if b then W ++ ch a else ch a ++ W
theorem cs_nm (b : Bool) (W : Str) (a : Nat) : cs (nmF b W a) = if b then cs W ++ [a] else a :: cs W := by
  cases b
  · show cs (ch a ++ W) = _
    rw [cs_app]; rfl
  · show cs (W ++ ch a) = _
    rw [cs_app]; rfl
theorem nms_of (b : Bool) (W : Str) (hW : W.length ≤ 7) (hl : ∀ c ∈ cs W, c ∈ lets) (st m : Nat) (h1 : 1 ≤ m) (h2 : m ≤ 20) : Nms ((List.range m).map fun k => nmF b W (lt ((st + k) % 26))) where
  one := by rw [List.length_map, List.length_range]; exact h1
  most := by rw [List.length_map, List.length_range]; exact h2
  ok := fun x mx => by
    obtain ⟨k, _, rfl⟩ := List.mem_map.mp mx
    have hlt : lt ((st + k) % 26) ∈ lets := lt_mem (by omega)
    have hlen : (nmF b W (lt ((st + k) % 26))).length = W.length + 1 := by
      rw [← cs_len, cs_nm, ← cs_len]
      cases b <;> simp
    refine ⟨by omega, by omega, fun c mc => ?_⟩
    rw [cs_nm] at mc
    cases b
    · rcases List.mem_cons.mp mc with e | m
      · rw [e]; exact hlt
      · exact hl c m
    · rcases List.mem_append.mp mc with m | m
      · exact hl c m
      · rw [List.mem_singleton.mp m]; exact hlt
  nd := by
    refine List.pairwise_map.mpr (List.Pairwise.imp_of_mem ?_ List.pairwise_lt_range)
    intro x y mx my hxy e
    have hx := List.mem_range.mp mx
    have hy := List.mem_range.mp my
    have e2 : lt ((st + x) % 26) = lt ((st + y) % 26) := by
      have := congrArg cs e
      rw [cs_nm, cs_nm] at this
      cases b
      · exact (List.cons.inj this).1
      · exact (List.cons.inj (List.append_cancel_left this)).1
    have := lt_inj (by omega) (by omega) e2
    omega
end G2
namespace G2
open PySem L2 DP
variable {cY : Addr}
abbrev eWord (cY : Addr) : DP.Env → M Sv := f2 oIxA (fVarW 2) (f2 oMod (f2 oDiv (fCall (m__law_spread cY) (fCons (fVarW 0) (fCons (f2 oAddA (fK (.int 40)) (fVarW 6)) fNil))) (fK (.int 7))) (fK (.int 26)))
abbrev eOwn : DP.Env → M Sv := f2 oIxA (fVarW 2) (f2 oMod (f2 oAddA (fVarW 4) (fVarW 6)) (fK (.int 26)))
theorem word_gen (ms : List D → M Sv) (c m L s : D) (ci k sp : Int) (e1 : ms [c, .int (40 + k)] = some (.ok (0, .int sp))) (e2 : oIxA (0, L) (0, .int (sp / 7 % 26)) = some (0, s)) :
    f2 oIxA (fVarW 2) (f2 oMod (f2 oDiv (fCall ms (fCons (fVarW 0) (fCons (f2 oAddA (fK (.int 40)) (fVarW 6)) fNil))) (fK (.int 7))) (fK (.int 26))) [some (0, c), some (0, m), some (0, L), none, none, none, some (0, .int k), none] = some (.ok (0, s)) := by
  have e3 : oDiv (0, .int sp) (0, .int 7) = some (0, .int (sp / 7)) := div_i (by decide)
  have e4 : oMod (0, .int (sp / 7)) (0, .int 26) = some (0, .int (sp / 7 % 26)) := mod_i (by decide)
  simp only [e_f2, e_call, e_cons, e_nil, e_fK, vW_eq, e_bo, List.getElem?_cons_zero, List.getElem?_cons_succ, vl_some, addA_i, lf_some, List.map, e1, clR_i, e3, e4, e2]
theorem t1 (ci : Int) (i : Nat) (hi : i < 8) : m__law_spread cY [.int ci, .int (40 + (0 + (i : Nat)))] = some (.ok (0, .int (sprd ci (40 + (0 + (i : Nat)))))) := spread_ok ci _ (by omega) (by omega)
theorem t4 (pk : Nat → Nat) (ci : Int) (i : Nat) (hpk : ∀ i : Nat, pk i = lt (sprd ci (40 + (0 + (i : Nat))) / 7 % 26).toNat) : oIxA (0, .str "abcdefghijklmnopqrstuvwxyz") (0, .int (sprd ci (40 + (0 + (i : Nat))) / 7 % 26)) = some (0, .str (ch (pk i))) := by
  have hs := sprd_lt ci (40 + (0 + (i : Nat)))
  rw [hpk]
  exact let_ix (by omega) (by omega)
theorem word_at (m : D) (ci : Int) (pk : Nat → Nat) (hpk : ∀ i : Nat, pk i = lt (sprd ci (40 + (0 + (i : Nat))) / 7 % 26).toNat) (i : Nat) (hi : i < 8) :
    eWord cY [some (0, .int ci), some (0, m), some (0, .str "abcdefghijklmnopqrstuvwxyz"), none, none, none, some (0, .int (0 + (i : Nat))), none] = some (.ok (0, .str (ch (pk i)))) :=
  word_gen _ _ _ _ _ ci _ _ (t1 ci i hi) (t4 pk ci i hpk)
theorem own_gen (c m L s : D) (W : D) (st k : Int) (e2 : oIxA (0, L) (0, .int ((st + k) % 26)) = some (0, s)) : eOwn [some (0, c), some (0, m), some (0, L), some (0, W), some (0, .int st), none, some (0, .int k), none] = some (.ok (0, s)) := by
  have e4 : oMod (0, .int (st + k)) (0, .int 26) = some (0, .int ((st + k) % 26)) := mod_i (by decide)
  simp only [e_f2, e_fK, vW_eq, e_bo, List.getElem?_cons_zero, List.getElem?_cons_succ, vl_some, addA_i, lf_some, e4, e2]
theorem own_at (c m : D) (W : Str) (st i : Nat) : eOwn [some (0, c), some (0, m), some (0, .str "abcdefghijklmnopqrstuvwxyz"), some (0, .str W), some (0, .int (st : Nat)), none, some (0, .int (0 + (i : Nat))), none] = some (.ok (0, .str (ch (lt ((st + i) % 26))))) := by
  refine own_gen _ _ _ _ _ _ _ ?_
  have e2 := let_ix (i := ((st : Int) + (0 + (i : Nat))) % 26) (by omega) (by omega)
  rw [show (((st : Int) + (0 + (i : Nat))) % 26).toNat = (st + i) % 26 by omega] at e2
  exact e2
theorem sq_set2 {i : Nat} {f : DP.Env → M Sv} {g : Gs} {env : DP.Env} {x : Sv} {r : Option Fl} (h : f env = some (.ok x)) (k : g (env.set i (some x)) = r) : gSeq (gSet i f) g env = r := by
  rw [e_gSeq, e_gSet, h]
  exact k
def gNm (ms : List D → M Sv) (L : D) : Gs := (gSeq (gSet 2 (fK L)) (gSeq (gSet 3 (fM "str" (m1 oJoin) (fK (.str "")) (fCons (fLc [6] (gN 6) fYes (f2 oIxA (fVarW 2) (f2 oMod (f2 oDiv (fCall ms (fCons (fVarW 0) (fCons (f2 oAddA (fK (.int 40)) (fVarW 6)) fNil))) (fK (.int 7))) (fK (.int 26)))) (fRg asR1 (fCons (f2 oMod (fCall ms (fCons (fVarW 0) (fCons (fK (.int 39)) fNil))) (fK (.int 8))) fNil))) fNil))) (gSeq (gSet 4 (f2 oMod (f2 oDiv (fCall ms (fCons (fVarW 0) (fCons (fK (.int 38)) fNil))) (fK (.int 3))) (fK (.int 26)))) (gSeq (gSet 5 (fLc [6] (gN 6) fYes (f2 oIxA (fVarW 2) (f2 oMod (f2 oAddA (fVarW 4) (fVarW 6)) (fK (.int 26)))) (fRg asR1 (fCons (fVarW 1) fNil)))) (gFz 5 (gRet (fIf (fT (f2 oGt (f2 oMod (fCall ms (fCons (fVarW 0) (fCons (fK (.int 37)) fNil))) (fK (.int 3))) (fK (.int 0)))) (fLc [7] (gN 7) fYes (f2 oAddA (fVarW 3) (fVarW 7)) (fSeq asL (fVar 5))) (fLc [7] (gN 7) fYes (f2 oAddA (fVarW 7) (fVarW 3)) (fSeq asL (fVar 5))))))))))
theorem gNm_eq : g__law_names cY = gNm (m__law_spread cY) (.str "abcdefghijklmnopqrstuvwxyz") := rfl
theorem names_gen (ms : List D → M Sv) (eW : DP.Env → M Sv) (heW : eW = f2 oIxA (fVarW 2) (f2 oMod (f2 oDiv (fCall ms (fCons (fVarW 0) (fCons (f2 oAddA (fK (.int 40)) (fVarW 6)) fNil))) (fK (.int 7))) (fK (.int 26)))) (L : D) (x39 x38 x37 y8 xm : Int) (c : Int) (m n st : Nat) (W : Str) (pk ow nm : Nat → Str) (b : Bool) (s39 : ms [.int c, .int 39] = some (.ok (0, .int x39))) (s38 : ms [.int c, .int 38] = some (.ok (0, .int x38))) (s37 : ms [.int c, .int 37] = some (.ok (0, .int x37)))
    (m8 : oMod (0, .int x39) (0, .int 8) = some (0, .int y8)) (rgn : asR1 [(0, .int y8)] = some (.ok (rgD 0 n))) (rgm : asR1 [(0, .int xm)] = some (.ok (rgD 0 m))) (hst : x38 / 3 % 26 = st) (hn8 : n ≤ 8) (h2 : m ≤ 20) (lW : W.length = n) (hb : decide (0 < x37 % 3) = b)
    (w1 : lcF (gN 6) fYes eW [some (0, .int c), some (0, .int xm), some (0, L), none, none, none, none, none] (rgD 0 n) = some ((List.range n).map fun i => .str (pk i)))
    (hj : oJoin (0, .str "") (1, .lst ((List.range n).map fun i => .str (pk i))) = some (0, .str W))
    (rb : ∀ i : Nat, (if b then oAddA (0, .str W) (0, .str (ow i)) else oAddA (0, .str (ow i)) (0, .str W)) = some (0, .str (nm i)))
    (o1 : lcF (gN 6) fYes eOwn [some (0, .int c), some (0, .int xm), some (0, L), some (0, .str W), some (0, .int (st : Nat)), none, none, none] (rgD 0 m) = some ((List.range m).map fun i => .str (ow i))) :
    gNm ms L [some (0, .int c), some (0, .int xm), none, none, none, none, none, none] = some (.rt (1, nD ((List.range m).map nm))) := by
  have rl : (rgD 0 n).length ≤ sizeLine := by rw [rgD_len]; exact small_le (by omega)
  have rl2 : (rgD 0 m).length ≤ sizeLine := by rw [rgD_len]; exact small_le (by omega)
  have rl3 : m ≤ sizeLine := small_le (by omega)
  have m3 : oMod (0, .int x37) (0, .int 3) = some (0, .int (x37 % 3)) := mod_i (by decide)
  have d3 : oDiv (0, .int x38) (0, .int 3) = some (0, .int (x38 / 3)) := div_i (by decide)
  have m26 : oMod (0, .int (x38 / 3)) (0, .int 26) = some (0, .int (st : Nat)) := by rw [mod_i (by decide), hst]
  have tyM1 : tyM (0, .str "") = some "str" := rfl
  unfold gNm
  rw [← heW]
  refine sq_set2 (x := (0, L)) rfl ?_
  refine sq_set2 (x := (0, .str W)) (by simp [s39, m8, rgn, rl, wipeE, w1, hj, tyM1]) ?_
  refine sq_set2 (x := (0, .int (st : Nat))) (by simp [s38, d3, m26]) ?_
  refine sq_set2 (x := (1, .lst ((List.range m).map fun i => .str (ow i)))) (by simp [rgm, rl2, wipeE, o1]) ?_
  cases b with
  | true =>
    have hb : 0 < x37 % 3 := of_decide_eq_true hb
    have r1 : ∀ i : Nat, oAddA (0, .str W) (0, .str (ow i)) = some (0, .str (nm i)) := rb
    have n1 := lcF_mapc (fun i : Nat => D.str (ow i)) (t := gN 7) (e := f2 oAddA (fVarW 3) (fVarW 7))
      (env := [some (0, .int c), some (0, .int xm), some (0, L), some (0, .str W), some (0, .int (st : Nat)), some (0, .lst ((List.range m).map fun i => .str (ow i))), none, none]) (fun i => .str (nm i)) (List.range m) fun i mi => ⟨_, rfl, by simp [r1]⟩
    simp [fzE, s37, m3, hb, wipeE, n1, rl3, nD]
  | false =>
    have hb : ¬ 0 < x37 % 3 := of_decide_eq_false hb
    have r2 : ∀ i : Nat, oAddA (0, .str (ow i)) (0, .str W) = some (0, .str (nm i)) := rb
    have n2 := lcF_mapc (fun i : Nat => D.str (ow i)) (t := gN 7) (e := f2 oAddA (fVarW 7) (fVarW 3))
      (env := [some (0, .int c), some (0, .int xm), some (0, L), some (0, .str W), some (0, .int (st : Nat)), some (0, .lst ((List.range m).map fun i => .str (ow i))), none, none]) (fun i => .str (nm i)) (List.range m) fun i mi => ⟨_, rfl, by simp [r2]⟩
    simp [fzE, s37, m3, hb, wipeE, n2, rl3, nD]
theorem names_fn (c : Int) (m : Nat) (h1 : 1 ≤ m) (h2 : m ≤ 20) : ∃ ns, Nms ns ∧ ns.length = m ∧ m__law_names cY [.int c, .int (m : Nat)] = some (.ok (1, nD ns)) := by
  obtain ⟨n, hn⟩ : ∃ n : Nat, sprd c 39 % 8 = n := ⟨(sprd c 39 % 8).toNat, by have := sprd_lt c 39; omega⟩
  obtain ⟨st, hst⟩ : ∃ n : Nat, sprd c 38 / 3 % 26 = n := ⟨(sprd c 38 / 3 % 26).toNat, by have := sprd_lt c 38; omega⟩
  have hn8 : n < 8 := by have := sprd_lt c 39; omega
  have s39 : m__law_spread cY [.int c, .int 39] = some (.ok (0, .int (sprd c 39))) := spread_ok c 39 (by decide) (by decide)
  have s38 : m__law_spread cY [.int c, .int 38] = some (.ok (0, .int (sprd c 38))) := spread_ok c 38 (by decide) (by decide)
  have s37 : m__law_spread cY [.int c, .int 37] = some (.ok (0, .int (sprd c 37))) := spread_ok c 37 (by decide) (by decide)
  obtain ⟨pk, hpk⟩ : ∃ pk : Nat → Nat, ∀ i : Nat, pk i = lt (sprd c (40 + (0 + (i : Nat))) / 7 % 26).toNat := ⟨_, fun _ => rfl⟩
  -- the word
  have w1 := lcF_mapc (fun i : Nat => D.int (0 + (i : Nat))) (t := gN 6) (e := eWord cY)
    (env := [some (0, .int c), some (0, .int (m : Nat)), some (0, .str "abcdefghijklmnopqrstuvwxyz"), none, none, none, none, none]) (fun i => .str (ch (pk i))) (List.range n) fun i mi => ⟨_, rfl, word_at _ c pk hpk i (by have := List.mem_range.mp mi; omega)⟩
  have w2 : ((List.range n).map fun i : Nat => D.int (0 + (i : Nat))) = rgD 0 n := rfl
  rw [w2] at w1
  have hj := join_ok (n := 0) (m := 1) (a := "") (List.range n) (fun i => ch (pk i)) (Nat.le_refl 1) (by
    have : (((List.range n).map fun i => ch (pk i)).map (·.length)) = List.replicate n 1 := by
      rw [List.map_map]
      apply List.ext_getElem
      · simp
      · intro i a b; simp; rfl
    rw [this, show ("" : Str).length = 0 from rfl]
    simp; omega)
  have hW : (List.range n).map (fun i => ch (pk i)) = ((List.range n).map fun i => pk i).map ch := by rw [List.map_map]; rfl
  rw [hW] at hj
  generalize hT : Txt.join "" (((List.range n).map fun i => pk i).map ch) = W at hj
  have csW : cs W = (List.range n).map fun i => pk i := by rw [← hT, join_chars]
  have lW : W.length = n := by rw [← cs_len, csW]; simp
  have okW : ∀ x ∈ cs W, x ∈ lets := fun x mx => by
    rw [csW] at mx
    obtain ⟨i, _, rfl⟩ := List.mem_map.mp mx
    have hs := sprd_lt c (40 + (0 + (i : Nat)))
    rw [hpk]
    exact lt_mem (by omega)
  -- the own letters
  have o1 := lcF_mapc (fun i : Nat => D.int (0 + (i : Nat))) (t := gN 6) (e := eOwn)
    (env := [some (0, .int c), some (0, .int (m : Nat)), some (0, .str "abcdefghijklmnopqrstuvwxyz"), some (0, .str W), some (0, .int (st : Nat)), none, none, none]) (fun i => .str (ch (lt ((st + i) % 26)))) (List.range m) fun i mi => ⟨_, rfl, own_at _ _ W st i⟩
  have o2 : ((List.range m).map fun i : Nat => D.int (0 + (i : Nat))) = rgD 0 m := rfl
  rw [o2] at o1
  obtain ⟨b, hb⟩ : ∃ b : Bool, decide (0 < sprd c 37 % 3) = b := ⟨_, rfl⟩
  refine ⟨(List.range m).map fun k => nmF b W (lt ((st + k) % 26)), nms_of b W (by omega) okW st m h1 h2, by simp, ?_⟩
  have hj2 : oJoin (0, .str "") (1, .lst ((List.range n).map fun i => .str (ch (pk i)))) = some (0, .str W) := hj
  refine runG_rt rfl ?_
  rw [gNm_eq]
  exact names_gen (m__law_spread cY) (eWord cY) rfl (.str "abcdefghijklmnopqrstuvwxyz") _ _ _ (sprd c 39 % 8) (m : Nat) c m n st W (fun i => ch (pk i)) (fun i => ch (lt ((st + i) % 26))) (fun k => nmF b W (lt ((st + k) % 26))) b s39 s38 s37 (mod_i (by decide)) (by rw [hn]; exact rg_k (by omega)) (rg_k (by omega)) hst (by omega) h2 lW hb w1 hj2
    (fun i => by cases b <;> exact addA_s (small_le (by rw [lW, ch_len]; omega))) o1
end G2
namespace G2
open PySem L2 DP
variable {cY : Addr}
theorem lay_of {d : D} (h : shp d = true) : (pyd d).canLay0 = true := (Bool.and_eq_true_iff.mp h).1
theorem eq_self' {n m : Nat} {d : D} (h : shp d = true) : oEq (n, d) (m, d) = some (0, .bl true) := by
  rw [eq_ok h h]
  show some ((0, .bl (PyData.eqv (pyd d) (pyd d))) : Sv) = _
  rw [PySem.SeqAt.eqv_refl _ (lay_of h)]
theorem ne_self' {n m : Nat} {d : D} (h : shp d = true) : oNeA (n, d) (m, d) = some (0, .bl false) := by
  show (oNe (n, d) (m, d)).or _ = _
  rw [ne_ok h h]
  show (some ((0, .bl (!PyData.eqv (pyd d) (pyd d))) : Sv)).or _ = _
  rw [PySem.SeqAt.eqv_refl _ (lay_of h)]
  rfl
section
variable {ns : List Str} {h : Hd}
theorem tx_ok (N : Nms ns) {x : Str} (m : x ∈ ns) : TxOk x := fun c mc => by
  have hl : ∀ c ∈ lets, c < 0x110000 := by decide +kernel
  exact hl c ((N.ok x m).2.2 c mc)
theorem shp_n (N : Nms ns) : shp (nD ns) = true := shp_lst _ fun d md => by
  obtain ⟨x, mx, rfl⟩ := List.mem_map.mp md
  exact flat_lay rfl fun y e => by cases e; exact tx_ok N mx
theorem nm_mem {i : Int} (h0 : 0 ≤ i) (h1 : i < (ns.length : Int)) : nmOf ns i ∈ ns := by
  unfold nmOf
  have hk : i.toNat < ns.length := by omega
  rw [List.getD_eq_getElem?_getD, List.getElem?_eq_getElem hk]
  exact List.getElem_mem _
theorem shp_g (N : Nms ns) (hk : HK ns h) : shp (.lst ((keysH h).map (gapD ns h))) = true := shp_lst _ fun d md => by
  obtain ⟨p, mp, rfl⟩ := List.mem_map.mp md
  obtain ⟨a, b, c, e⟩ := hk p (keys_mem.mp mp)
  have t1 := lay_str (tx_ok N (nm_mem (ns := ns) a b))
  have t2 := lay_str (tx_ok N (nm_mem (ns := ns) c e))
  constructor
  · show PyData.canLay0 (.tuple [pyd (.str (nmOf ns p.1)), pyd (.str (nmOf ns p.2)), .int (vOf h p)]) = true
    rw [PyData.canLay0, PyData.canLayAll0, t1, PyData.canLayAll0, t2, PyData.canLayAll0]
    rfl
  · show PyData.depth (.tuple [.str (nmOf ns p.1), .str (nmOf ns p.2), .int (vOf h p)]) ≤ 62
    rw [PyData.depth, PyData.depthAll, PyData.depthAll, PyData.depthAll, PyData.depthAll, PyData.depth, PyData.depth, PyData.depth]
    omega
/-- the law's own rows -/
theorem rows_ok (hl : h.length ≤ 1000) (hk : HK ns h) (y dd a4 a5 a6 a7 a8 : Option Sv) :
    (fLc [7, 8] (gT [7, 8]) fYes (fTup (fCons (f2 oIxA (fVarW 1) (fVarW 7)) (fCons (f2 oIxA (fVarW 1) (fVarW 8)) (fCons (f2 oIxA (fVarW 2) (fTup (fCons (fVar 7) (fCons (fVar 8) fNil)))) fNil)))) (fSeq asL (fC (c1 oSorted) (fCons (fVarW 2) fNil))))
      [y, some (0, nD ns), some (0, hD h), dd, a4, a5, a6, a7, a8] = some (.ok (1, .lst ((keysH h).map (gapD ns h)))) := by
  have h1 := lcF_mapc tupP (t := gT [7, 8]) (e := fTup (fCons (f2 oIxA (fVarW 1) (fVarW 7)) (fCons (f2 oIxA (fVarW 1) (fVarW 8)) (fCons (f2 oIxA (fVarW 2) (fTup (fCons (fVar 7) (fCons (fVar 8) fNil)))) fNil)))) (env := [y, some (0, nD ns), some (0, hD h), dd, a4, a5, a6, none, none]) (gapD ns h) (keysH h) fun p m => ⟨_, rfl, by
    obtain ⟨a, b, c, d⟩ := hk p (keys_mem.mp m)
    have t1 : ∀ (x y : Str) (v : Int), oTup [(0, .str x), (0, .str y), (0, .int v)] = some (0, .tup [.str x, .str y, .int v]) := fun _ _ _ => rfl
    have t2 : ∀ (x y : Int), oTup [(0, .int x), (0, .int y)] = some (0, .tup [.int x, .int y]) := fun _ _ => rfl
    have t3 : oIxA (0, hD h) (0, .tup [.int p.1, .int p.2]) = some (0, .int (vOf h p)) := ix_h (Nat.zero_le 1) (keys_get m)
    simp [ix_nm, a, b, c, d, t1, t2, t3] <;> rfl⟩
  have l2 : (keysH h).length ≤ sizeLine := by rw [keys_len]; exact small_le (by omega)
  simp [sorted_h (Nat.zero_le 1), wipeE, h1, l2]
end
end G2
namespace G2
open PySem L2 DP
variable {cY : Addr}
theorem sq_ifn {t : DP.Env → M Bool} {g1 g : Gs} {env : DP.Env} {r : Option Fl} (h : t env = some (.ok false)) (k : g env = r) : gSeq (gIf t g1 DP.gNil) g env = r := by
  rw [e_gSeq, e_gIf, h]
  exact k
theorem sq_u {u : DP.Env → MU} {g : Gs} {env env' : DP.Env} {x : D} {r : Option Fl} (h : u env = some (.ok (x, env'))) (k : g env' = r) : gSeq (gU u) g env = r := by
  rw [e_gSeq, e_gU, h]
  exact k
theorem sq_nx {g1 g : Gs} {env env' : DP.Env} {r : Option Fl} (h : g1 env = some (.nx env')) (k : g env' = r) : gSeq g1 g env = r := by
  rw [e_gSeq, h]
  exact k
section
variable {ns : List Str} {h : Hd}
theorem app_5 {a0 a1 a2 a3 a4 a6 a7 a8 : Option Sv} {ds : List D} (hl : ds.length ≤ 2000) : uApp (plS 5) (fK .non) [a0, a1, a2, a3, a4, some (1, .lst ds), a6, a7, a8] = some (.ok (.non, [a0, a1, a2, a3, a4, some (1, .lst (ds ++ [.non])), a6, a7, a8])) := by
  rw [e_app, plS_get 5 (x := (1, .lst ds)) rfl]
  have c : ds.length < sizeLine := Nat.lt_of_lt_of_le (show ds.length < 3000 by omega) (small_le (by decide))
  simp [c, putN]
theorem app_6 {a0 a1 a2 a3 a4 a5 a7 a8 : Option Sv} {ds : List D} {x : Str} (hl : ds.length ≤ 2000) : uApp (plS 6) (fK (.str x)) [a0, a1, a2, a3, a4, a5, some (1, .lst ds), a7, a8] = some (.ok (.non, [a0, a1, a2, a3, a4, a5, some (1, .lst (ds ++ [.str x])), a7, a8])) := by
  rw [e_app, plS_get 6 (x := (1, .lst ds)) rfl]
  have c : ds.length < sizeLine := Nat.lt_of_lt_of_le (show ds.length < 3000 by omega) (small_le (by decide))
  simp [c, putN]
theorem clR_t (ds : List D) : clR [(0, yD cY ns h)] (some (.ok (1, .lst ds))) = some (.ok (1, .lst ds)) := clR0 rfl
theorem shp_o (p : PI2) : shp (oldD h p) = true := by
  unfold oldD
  cases hGet h p <;> rfl
theorem idx_nm (N : Nms ns) {i : Int} (h0 : 0 ≤ i) (h1 : i < (ns.length : Int)) : ((ns.idxOf (nmOf ns i) : Nat) : Int) = i := by
  have hk : i.toNat < ns.length := by omega
  have hm := nm_mem (ns := ns) h0 h1
  have e1 : nmOf ns i = ns[i.toNat] := by
    unfold nmOf
    rw [List.getD_eq_getElem?_getD, List.getElem?_eq_getElem hk]; rfl
  have hl := List.idxOf_lt_length_of_mem hm
  have e2 := List.getElem_idxOf hl
  have e3 : ns[ns.idxOf (nmOf ns i)] = ns[i.toNat] := e2.trans e1
  have : ns.idxOf (nmOf ns i) = i.toNat := Classical.byContradiction fun ne => by
    rcases Nat.lt_or_gt_of_ne ne with c | c
    · exact List.pairwise_iff_getElem.mp N.nd _ _ hl hk c e3
    · exact List.pairwise_iff_getElem.mp N.nd _ _ hk hl c e3.symm
  omega
theorem ask_ok (N : Nms ns) {a o : Int} (a0 : 0 ≤ a) (a1 : a < (ns.length : Int)) (o0 : 0 ≤ o) (o1 : o < (ns.length : Int)) (hne : a ≠ o) : m_Yard_most cY [yD cY ns h, .str (nmOf ns a), .str (nmOf ns o)] = some (.ok (0, oldD h (a, o))) := by
  have e1 := idx_nm N a0 a1
  have e2 := idx_nm N o0 o1
  have hn : nmOf ns a ≠ nmOf ns o := fun e => hne (by rw [← e1, ← e2, e])
  have := most_ok (cY := cY) (h := h) N (nm_mem a0 a1) (nm_mem o0 o1) hn
  rw [this]
  rw [show ixP ns (nmOf ns a) (nmOf ns o) = (a, o) from Prod.ext e1 e2]
theorem right_ok (N : Nms ns) (hl : h.length ≤ 1000) (hk : HK ns h) (d : Int) : m__law_right cY [yD cY ns h, nD ns, hD h, .int d] = some (.ok (0, .bl true)) := by
  have hlg : ((keysH h).map (gapD ns h)).length ≤ 2000 := by rw [List.length_map, keys_len]; omega
  have hln : (ns.map D.str).length ≤ 2000 := by rw [List.length_map]; have := N.most; omega
  have i1 : ∀ ds : List D, oIsi "list" (1, .lst ds) = some (0, .bl true) := fun _ => rfl
  have i2 : oIsi "list" (1, nD ns) = some (0, .bl true) := rfl
  have fin : ∀ a5 a6 a7 a8 : Option Sv, gRet (fAndV (f2 oEq (fMeth cY "gaps" (m_Yard_gaps cY) (fVarW 0) fNil) (fVarW 4)) (f2 oEq (fMeth cY "names" (m_Yard_names cY) (fVarW 0) fNil) (fVarW 1)))
      [some (0, yD cY ns h), some (0, nD ns), some (0, hD h), some (0, .int d), some (1, .lst ((keysH h).map (gapD ns h))), a5, a6, a7, a8] = some (.rt (0, .bl true)) := fun a5 a6 a7 a8 => by
    have c2 : clR [(0, yD cY ns h)] (some (.ok (1, nD ns))) = some (.ok (1, nD ns)) := clR0 rfl
    simp [ins_y "gaps", ins_y "names", gaps_ok hl hk, clR_t, names_ok, c2, eq_self' (shp_g N hk), eq_self' (shp_n N)]
  refine runG_rt rfl ?_
  unfold g__law_right
  refine sq_set2 (x := (1, .lst ((keysH h).map (gapD ns h)))) (rows_ok hl hk _ _ _ _ _ _ _) ?_
  refine sq_set2 (x := (1, .lst ((keysH h).map (gapD ns h)))) (by simp [env0, ins_y "gaps", gaps_ok hl hk, clR_t]) ?_
  refine sq_ifn (by simp [env0, i1, ne_self' (shp_g N hk)]) ?_
  refine sq_u (app_5 hlg) ?_
  refine sq_set2 (x := (1, nD ns)) (by
    have c2 : clR [(0, yD cY ns h)] (some (.ok (1, nD ns))) = some (.ok (1, nD ns)) := clR0 rfl
    simp [env0, ins_y "names", names_ok, c2]) ?_
  refine sq_ifn (by simp [env0, i2, ne_self' (shp_n N)]) ?_
  refine sq_u (app_6 hln) ?_
  by_cases c : 1 < ns.length
  · obtain ⟨L, hL⟩ : ∃ L : Int, L = ns.length := ⟨_, rfl⟩
    have hL1 : 1 < L := by omega
    obtain ⟨a, ha⟩ : ∃ a, d % L = a := ⟨_, rfl⟩
    obtain ⟨q, hq⟩ : ∃ q, d / 20 % (L - 1) = q := ⟨_, rfl⟩
    obtain ⟨o, ho⟩ : ∃ o, (a + 1 + q) % L = o := ⟨_, rfl⟩
    have a0 : 0 ≤ a := by rw [← ha]; exact Int.emod_nonneg _ (by omega)
    have a1 : a < L := by rw [← ha]; exact Int.emod_lt_of_pos _ (by omega)
    have q0 : 0 ≤ q := by rw [← hq]; exact Int.emod_nonneg _ (by omega)
    have q1 : q < L - 1 := by rw [← hq]; exact Int.emod_lt_of_pos _ (by omega)
    have o0 : 0 ≤ o := by rw [← ho]; exact Int.emod_nonneg _ (by omega)
    have o1 : o < L := by rw [← ho]; exact Int.emod_lt_of_pos _ (by omega)
    have hne : a ≠ o := by
      by_cases w : a + 1 + q < L
      · rw [Int.emod_eq_of_lt (by omega) w] at ho; omega
      · have e : (a + 1 + q) % L = a + 1 + q - L := by
          rw [← Int.sub_emod_right]
          exact Int.emod_eq_of_lt (by omega) (by omega)
        omega
    rw [hL] at a1 o1
    have m1 : oMod (0, .int d) (0, .int L) = some (0, .int a) := by rw [mod_i (by omega), ha]
    have m2 : oDiv (0, .int d) (0, .int 20) = some (0, .int (d / 20)) := div_i (by decide)
    have m3 : oMod (0, .int (d / 20)) (0, .int (L - 1)) = some (0, .int q) := by rw [mod_i (by omega), hq]
    have m4 : oMod (0, .int (a + 1 + q)) (0, .int L) = some (0, .int o) := by rw [mod_i (by omega), ho]
    have ln : ∀ n, oLen (n, nD ns) = some (0, .int L) := fun n => by rw [len_n, hL]
    have k1 := ask_ok (cY := cY) (h := h) N a0 a1 o0 o1 hne
    have k2 := ask_ok (cY := cY) (h := h) N o0 o1 a0 a1 (Ne.symm hne)
    have co : ∀ (xs : List Sv) (p : PI2), clR xs (some (.ok (0, oldD h p))) = some (.ok (0, oldD h p)) := fun xs p => clR_o xs h p
    have g1 : ∀ i j : Int, oGet (0, hD h) (0, .tup [.int i, .int j]) = some (0, oldD h (i, j)) := fun i j => get_h (Nat.zero_le 1) h i j
    have t2 : ∀ (x y : Int), oTup [(0, .int x), (0, .int y)] = some (0, .tup [.int x, .int y]) := fun _ _ => rfl
    have n1 : ∀ p, oNeA (0, oldD h p) (0, oldD h p) = some (0, .bl false) := fun p => ne_self' (shp_o p)
    have x1 := ix_nm (ns := ns) (n := 0) (m := 0) (Nat.zero_le 1) a0 a1
    have x2 := ix_nm (ns := ns) (n := 0) (m := 0) (Nat.zero_le 1) o0 o1
    generalize nmOf ns a = xa at *
    generalize nmOf ns o = xo at *
    refine sq_nx (env' := [some (0, yD cY ns h), some (0, nD ns), some (0, hD h), some (0, .int d), some (1, .lst ((keysH h).map (gapD ns h))), some (1, .lst ((keysH h).map (gapD ns h) ++ [.non])), some (1, .lst (ns.map D.str ++ [.str "more"])), some (0, .int a), some (0, .int o)]) ?_ (fin _ _ _ _)
    rw [e_gIf]
    have tt : fT (f2 oGt (fC (c1 oLen) (fCons (fVarW 1) fNil)) (fK (.int 1))) [some (0, yD cY ns h), some (0, nD ns), some (0, hD h), some (0, .int d), some (1, .lst ((keysH h).map (gapD ns h))), some (1, .lst ((keysH h).map (gapD ns h) ++ [.non])), some (1, .lst (ns.map D.str ++ [.str "more"])), none, none] = some (.ok true) := by simp [ln, hL1]
    refine (congrArg (fun z => gM z _ _) tt).trans ?_
    rw [gM_ok, if_pos rfl]
    refine sq_set2 (x := (0, .int a)) (by simp [ln, m1]) ?_
    refine sq_set2 (x := (0, .int o)) (by simp [ln, m2, m3, m4]) ?_
    refine sq_ifn (by simp [ins_y "most", x1, x2, k1, co, isDct_h, t2, g1, n1]) ?_
    rw [e_gIf]
    have t3 : ∀ e : DP.Env, e = [some (0, yD cY ns h), some (0, nD ns), some (0, hD h), some (0, .int d), some (1, .lst ((keysH h).map (gapD ns h))), some (1, .lst ((keysH h).map (gapD ns h) ++ [.non])), some (1, .lst (ns.map D.str ++ [.str "more"])), some (0, .int a), some (0, .int o)] → fT (f2 oNeA (fMeth cY "most" (m_Yard_most cY) (fVarW 0) (fCons (f2 oIxA (fVarW 1) (fVarW 8)) (fCons (f2 oIxA (fVarW 1) (fVarW 7)) fNil))) (fGet (fVarW 2) (fTup (fCons (fVar 8) (fCons (fVar 7) fNil))))) e = some (.ok false) := fun e he => by
      subst he
      simp [ins_y "most", x1, x2, k2, co, isDct_h, t2, g1, n1]
    refine (congrArg (fun z => gM z _ _) (t3 _ rfl)).trans ?_
    rfl
  · refine sq_ifn ?_ (fin _ _ _ _)
    have : ¬ (1 : Int) < ns.length := by omega
    simp [env0, len_n, this]
end
end G2
namespace G2
open PySem L2 DP
variable {cY : Addr}
theorem forF_invN {t : D → DP.Env → Option DP.Env} {g : Gs} (I : Nat → DP.Env → Prop) : ∀ (ds : List D) (i : Nat), (∀ (j : Nat) (d : D), ds[j]? = some d → ∀ env, I (i + j) env → ∃ e1 e2, t d env = some e1 ∧ g e1 = some (.nx e2) ∧ I (i + j + 1) e2) → ∀ env, I i env → ∃ env', forF t g ds env = some (.nx env') ∧ I (i + ds.length) env'
  | [], i, _, env, h => ⟨env, rfl, h⟩
  | d :: ds, i, H, env, h => by
    obtain ⟨e1, e2, a, b, i2⟩ := H 0 d rfl env h
    obtain ⟨env', e, k⟩ := forF_invN I ds (i + 1) (fun j x hx env' hi => by
      have := H (j + 1) x (by simpa using hx) env' (by rw [show i + (j + 1) = i + 1 + j by omega]; exact hi)
      rw [show i + (j + 1) + 1 = i + 1 + j + 1 by omega] at this
      exact this) e2 i2
    refine ⟨env', ?_, by rw [List.length_cons, show i + (ds.length + 1) = i + 1 + ds.length by omega]; exact k⟩
    show (match t d env with | none => none | some env' => match g env' with | some (.nx env2) => forF t g ds env2 | some (.ct env2) => forF t g ds env2 | some (.bk env2) => some (.nx env2) | r => r) = _
    rw [a]
    show (match g e1 with | some (.nx env2) => forF t g ds env2 | some (.ct env2) => forF t g ds env2 | some (.bk env2) => some (.nx env2) | r => r) = _
    rw [b]
    exact e
theorem sq_forN {t : D → DP.Env → Option DP.Env} {l : DP.Env → M (List D)} {g g2 : Gs} {ds : List D} {env : DP.Env} {r : Option Fl} (I : Nat → DP.Env → Prop) (hl : l env = some (.ok ds)) (hi : I 0 env) (hb : ∀ (j : Nat) (d : D), ds[j]? = some d → ∀ env, I j env → ∃ e1 e2, t d env = some e1 ∧ g e1 = some (.nx e2) ∧ I (j + 1) e2) (hk : ∀ env', I ds.length env' → g2 env' = r) : gSeq (gFor t l g) g2 env = r := by
  obtain ⟨env', e, i⟩ := forF_invN I ds 0 (fun j d h env hh => by
    rw [Nat.zero_add] at hh ⊢
    exact hb j d h env hh) env hi
  rw [e_gSeq, e_gFor, hl, gM_ok, e]
  rw [Nat.zero_add] at i
  exact hk env' i
end G2
namespace G2
open PySem L2 DP
variable {cY : Addr}
theorem ixN_k {n w : Nat} (h : w < n) : ixN n (w : Nat) = some w := by
  unfold ixN
  rw [if_pos (by omega), if_pos (by omega), Int.toNat_natCast]
theorem plE_get {i : Nat} {f : DP.Env → M Sv} {env : DP.Env} {n m w : Nat} {ds : List D} {e : D} (h1 : env[i]? = some (some (n + 1, .lst ds))) (h2 : f env = some (.ok (m, .int (w : Nat)))) (h3 : ds[w]? = some e) : plGet (plE i f) env = some (.ok ([w], (n + 1, .lst ds), (n, e))) := by
  have hw := (List.getElem?_eq_some_iff.mp h3).1
  have e1 : (plE i f).p env = some (.ok [w]) := by
    show bd (vl (env[i]?)) (fun x => bd (f env) fun y => match x.2, y.2 with | .lst ds, .int j => lf ((ixN ds.length j).map fun n => [n]) | _, _ => M.no) = _
    rw [h1, h2]
    show lf ((ixN ds.length (w : Nat)).map fun n => [n]) = _
    rw [ixN_k hw]; rfl
  show bd ((plE i f).p env) (fun p => bd (vl (env[i]?)) fun x => lf ((nav p x.1 x.2).map fun y => (p, x, y))) = _
  rw [e1, h1]
  show lf ((nav [w] (n + 1) (.lst ds)).map fun y => ([w], ((n + 1, .lst ds) : Sv), y)) = _
  rw [show nav [w] (n + 1) (.lst ds) = some (n, e) by
    show ((kids (.lst ds))[w]?).bind (nav [] n) = _
    rw [show (kids (.lst ds))[w]? = some e from h3]; rfl]
  rfl
theorem putN_lst {w : Nat} {ds : List D} {e e' : D} (h : ds[w]? = some e) : putN [w] (.lst ds) e' = .lst (ds.set w e') := by
  show (match (kids (.lst ds))[w]? with | some x => setKids (.lst ds) ((kids (.lst ds)).set w (putN [] x e')) | none => .lst ds) = _
  rw [show (kids (.lst ds))[w]? = some e from h]; rfl
theorem ixN_at {n m w : Nat} {ds : List D} {e : D} (h : ds[w]? = some e) : oIxN (n, .lst ds) (m, .int (w : Nat)) = some (n - 1, e) := by
  have hw := (List.getElem?_eq_some_iff.mp h).1
  show (atI ds (w : Nat)).map (fun d => ((n - 1, d) : Sv)) = _
  unfold atI
  rw [ixN_k hw, Option.bind_some, h]; rfl
def HN (h : Hd) : Prop := ∀ p ∈ h.map (·.1), p.1 ≠ p.2
/-- the two dicts, and the yards that hold the same -/
structure St2 (ns : List Str) (n : Nat) (hs : List Hd) : Prop where
  len : hs.length = 2
  ok : ∀ h ∈ hs, HK ns h ∧ h.length ≤ n ∧ HN h
theorem St2.put {ns : List Str} {n : Nat} {hs : List Hd} (s : St2 ns n hs) {w : Nat} {h' : Hd} (h1 : HK ns h') (h2 : h'.length ≤ n + 1) (h3 : HN h') : St2 ns (n + 1) (hs.set w h') where
  len := by rw [List.length_set]; exact s.len
  ok := fun h m => by
    rcases List.mem_or_eq_of_mem_set m with m | m
    · have := s.ok h m; exact ⟨this.1, by omega, this.2.2⟩
    · rw [m]; exact ⟨h1, h2, h3⟩
theorem HK.put {ns : List Str} {h : Hd} (k : HK ns h) {p : PI2} (hp : 0 ≤ p.1 ∧ p.1 < (ns.length : Int) ∧ 0 ≤ p.2 ∧ p.2 < (ns.length : Int)) (v : Int) : HK ns (hPut h p v) := fun q m => by
  rcases hPut_keys h p v m with m | m
  · exact k q m
  · rw [m]; exact hp
theorem HN.put {h : Hd} (k : HN h) {p : PI2} (hp : p.1 ≠ p.2) (v : Int) : HN (hPut h p v) := fun q m => by
  rcases hPut_keys h p v m with m | m
  · exact k q m
  · rw [m]; exact hp
theorem HN.del {h : Hd} (k : HN h) (p : PI2) : HN (hDel h p) := fun q m => k q (hDel_keys h p m)
theorem HK.del {ns : List Str} {h : Hd} (k : HK ns h) (p : PI2) : HK ns (hDel h p) := fun q m => k q (hDel_keys h p m)
end G2
namespace G2
open PySem L2 DP
variable {cY : Addr}
section
variable {ns : List Str} {h : Hd} {hs : List Hd} {env : DP.Env} {w : Nat} {gs : DP.Env → M (List Sv)}
theorem yds_get (hw : hs[w]? = some h) : (hs.map (yD cY ns))[w]? = some (yD cY ns h) := by rw [List.getElem?_map, hw]; rfl
theorem hds_get (hw : hs[w]? = some h) : (hs.map hD)[w]? = some (hD h) := by rw [List.getElem?_map, hw]; rfl
theorem e_umeth (nm : Str) (lv : Nat) (m : List D → Option RM) (P : Pl) : uMeth cY nm lv m P gs env = mP (plGet P env) fun r => mP (lf (if r.2.2.1 = lv ∧ 1 ≤ lv ∧ isIns cY nm r.2.2.2 = true then some () else none)) fun _ => mB (gs env) env fun xs => mP (lf (if lv0 xs = true then some () else none)) fun _ => (m (r.2.2.2 :: xs.map (·.2))).map (outU P.i r.2.1 r.1 env) := rfl
theorem uput_ok (N : Nms ns) (h3 : env[3]? = some (some (3, .lst (hs.map (yD cY ns))))) (h10 : env[10]? = some (some (0, .int (w : Nat)))) (hw : hs[w]? = some h) {a o v : Int} (a0 : 0 ≤ a) (a1 : a < (ns.length : Int)) (o0 : 0 ≤ o) (o1 : o < (ns.length : Int)) (hne : a ≠ o) (v0 : -big ≤ v) (v1 : v ≤ big) (hl : h.length ≤ 1000)
    (hg : gs env = some (.ok [(0, .str (nmOf ns a)), (0, .str (nmOf ns o)), (0, .int v)])) :
    uMeth cY "put" 2 (m_Yard_put cY) (plE 3 (fVarW 10)) gs env = some (.ok (oldD h (a, o), env.set 3 (some (3, .lst ((hs.set w (hPut h (a, o) v)).map (yD cY ns)))))) := by
  have e1 := idx_nm N a0 a1
  have e2 := idx_nm N o0 o1
  have hn : nmOf ns a ≠ nmOf ns o := fun e => hne (by rw [← e1, ← e2, e])
  have p := put_ok (cY := cY) (h := h) N (nm_mem a0 a1) (nm_mem o0 o1) hn v0 v1 hl
  rw [show ixP ns (nmOf ns a) (nmOf ns o) = (a, o) from Prod.ext e1 e2] at p
  have f10 : fVarW 10 env = some (.ok (0, .int (w : Nat))) := by rw [vW_eq, h10]; rfl
  rw [e_umeth, plE_get h3 f10 (yds_get hw), mP_ok]
  dsimp only
  rw [if_pos ⟨rfl, by decide, ins_y "put"⟩, lf_some, mP_ok, hg, mB_ok, if_pos (show lv0 [(0, D.str (nmOf ns a)), (0, .str (nmOf ns o)), (0, .int v)] = true from rfl), lf_some, mP_ok]
  show (m_Yard_put cY [yD cY ns h, .str (nmOf ns a), .str (nmOf ns o), .int v]).map _ = _
  rw [p]
  show some (Except.ok (oldD h (a, o), env.set 3 (some (3, putN [w] (.lst (hs.map (yD cY ns))) (yD cY ns (hPut h (a, o) v)))))) = _
  rw [putN_lst (yds_get hw), List.map_set]
theorem utake_ok (N : Nms ns) (h3 : env[3]? = some (some (3, .lst (hs.map (yD cY ns))))) (h10 : env[10]? = some (some (0, .int (w : Nat)))) (hw : hs[w]? = some h) {a o v : Int} (a0 : 0 ≤ a) (a1 : a < (ns.length : Int)) (o0 : 0 ≤ o) (o1 : o < (ns.length : Int)) (hne : a ≠ o) (hq : hGet h (a, o) = some v)
    (hg : gs env = some (.ok [(0, .str (nmOf ns a)), (0, .str (nmOf ns o))])) :
    uMeth cY "take" 2 (m_Yard_take cY) (plE 3 (fVarW 10)) gs env = some (.ok (.int v, env.set 3 (some (3, .lst ((hs.set w (hDel h (a, o))).map (yD cY ns)))))) := by
  have e1 := idx_nm N a0 a1
  have e2 := idx_nm N o0 o1
  have hn : nmOf ns a ≠ nmOf ns o := fun e => hne (by rw [← e1, ← e2, e])
  have ei : ixP ns (nmOf ns a) (nmOf ns o) = (a, o) := Prod.ext e1 e2
  have p := take_ok (cY := cY) (h := h) N (nm_mem a0 a1) (nm_mem o0 o1) hn (v := v) (by rw [ei]; exact hq)
  rw [ei] at p
  have f10 : fVarW 10 env = some (.ok (0, .int (w : Nat))) := by rw [vW_eq, h10]; rfl
  rw [e_umeth, plE_get h3 f10 (yds_get hw), mP_ok]
  dsimp only
  rw [if_pos ⟨rfl, by decide, ins_y "take"⟩, lf_some, mP_ok, hg, mB_ok, if_pos (show lv0 [(0, D.str (nmOf ns a)), (0, .str (nmOf ns o))] = true from rfl), lf_some, mP_ok]
  show (m_Yard_take cY [yD cY ns h, .str (nmOf ns a), .str (nmOf ns o)]).map _ = _
  rw [p]
  show some (Except.ok (D.int v, env.set 3 (some (3, putN [w] (.lst (hs.map (yD cY ns))) (yD cY ns (hDel h (a, o))))))) = _
  rw [putN_lst (yds_get hw), List.map_set]
end
end G2
namespace G2
open PySem L2 DP
variable {cY : Addr}
abbrev gPut (cY : Addr) : Gs := gSeq (gIfU oNeA (uMeth cY "put" 2 (m_Yard_put cY) (plE 3 (fVarW 10)) (fCons (f2 oIxA (fVarW 2) (fVarW 12)) (fCons (f2 oIxA (fVarW 2) (fVarW 13)) (fCons (fVarW 14) fNil)))) (fGet (fVarW 11) (fTup (fCons (fVar 12) (fCons (fVar 13) fNil)))) (gRet (fK (.bl false))) DP.gNil) (gU (uItem (plS 11) (fVar 14) (fTup (fCons (fVar 12) (fCons (fVar 13) fNil)))))
abbrev gTake (cY : Addr) : Gs := gIfUU oNeA (uMeth cY "take" 2 (m_Yard_take cY) (plE 3 (fVarW 10)) (fCons (f2 oIxA (fVarW 2) (fVarW 12)) (fCons (f2 oIxA (fVarW 2) (fVarW 13)) fNil))) (uPopD (plS 11) (fTup (fCons (fVar 12) (fCons (fVar 13) fNil)))) (gRet (fK (.bl false))) DP.gNil
section
variable {ns : List Str} {h : Hd} {hs : List Hd} {w : Nat}
theorem gIfU_ok {op : Sv → Sv → Option Sv} {u : DP.Env → MU} {g : DP.Env → M Sv} {g1 g2 : Gs} {env e2 : DP.Env} {x : D} {y : Sv} {k : Bool} (h1 : u env = some (.ok (x, e2))) (h2 : g e2 = some (.ok y)) (h3 : op (0, x) y = some (0, .bl k)) : gIfU op u g g1 g2 env = if k then g1 e2 else g2 e2 := by
  unfold gIfU
  rw [h1]
  show gM (bd (g e2) fun y => bd (lf (op (0, x) y)) asB) e2 _ = _
  rw [h2, e_bo, h3]
  rfl
theorem gIfUU_ok {op : Sv → Sv → Option Sv} {u v : DP.Env → MU} {g1 g2 : Gs} {env e2 e3 : DP.Env} {x y : D} {k : Bool} (h1 : u env = some (.ok (x, e2))) (h2 : v e2 = some (.ok (y, e3))) (h3 : op (0, x) (0, y) = some (0, .bl k)) : gIfUU op u v g1 g2 env = if k then g1 e3 else g2 e3 := by
  unfold gIfUU
  rw [h1]
  dsimp only
  rw [h2]
  show gM (bd (lf (op (0, x) (0, y))) asB) e3 _ = _
  rw [h3]
  rfl
theorem put_step (N : Nms ns) (hw : hs[w]? = some h) {a o v : Int} (a0 : 0 ≤ a) (a1 : a < (ns.length : Int)) (o0 : 0 ≤ o) (o1 : o < (ns.length : Int)) (hne : a ≠ o) (v0 : -big ≤ v) (v1 : v ≤ big) (hl : h.length ≤ 1000) (b0 b1 b4 b5 b7 b8 b9 : Option Sv) :
    gPut cY [b0, b1, some (1, nD ns), some (3, .lst (hs.map (yD cY ns))), b4, b5, none, b7, b8, b9, some (0, .int (w : Nat)), some (1, hD h), some (0, .int a), some (0, .int o), some (0, .int v)]
      = some (.nx [b0, b1, some (1, nD ns), some (3, .lst ((hs.set w (hPut h (a, o) v)).map (yD cY ns))), b4, b5, none, b7, b8, b9, some (0, .int (w : Nat)), some (1, hD (hPut h (a, o) v)), some (0, .int a), some (0, .int o), some (0, .int v)]) := by
  have x1 := ix_nm (ns := ns) (n := 1) (m := 0) (Nat.le_refl 1) a0 a1
  have x2 := ix_nm (ns := ns) (n := 1) (m := 0) (Nat.le_refl 1) o0 o1
  have hl2 : h.length < sizeLine := Nat.lt_of_lt_of_le (show h.length < 2000 by omega) (small_le (by decide))
  have t2 : ∀ (x y : Int), oTup [(0, .int x), (0, .int y)] = some (0, .tup [.int x, .int y]) := fun _ _ => rfl
  have g1 : oGet (1, hD h) (0, .tup [.int a, .int o]) = some (0, oldD h (a, o)) := get_h (Nat.le_refl 1) h a o
  have n1 : oNeA (0, oldD h (a, o)) (0, oldD h (a, o)) = some (0, .bl false) := ne_self' (shp_o _)
  have d1 : isDct (1, hD h) = true := isDct_h (Nat.le_refl 1) h
  refine sq_nx (env' := [b0, b1, some (1, nD ns), some (3, .lst ((hs.set w (hPut h (a, o) v)).map (yD cY ns))), b4, b5, none, b7, b8, b9, some (0, .int (w : Nat)), some (1, hD h), some (0, .int a), some (0, .int o), some (0, .int v)]) ?_ ?_
  · refine (gIfU_ok (uput_ok N rfl rfl hw a0 a1 o0 o1 hne v0 v1 hl (by simp [x1, x2])) (y := (0, oldD h (a, o))) (by simp [d1, t2, g1]) n1).trans ?_
    rfl
  · rw [e_gU, e_item, plS_get 11 (x := (1, hD h)) rfl]
    simp [t2, st_h hl2, putN]
theorem take_step (N : Nms ns) (hw : hs[w]? = some h) {a o v : Int} (a0 : 0 ≤ a) (a1 : a < (ns.length : Int)) (o0 : 0 ≤ o) (o1 : o < (ns.length : Int)) (hne : a ≠ o) (hq : hGet h (a, o) = some v) (b0 b1 b4 b5 b7 b8 b9 b14 : Option Sv) :
    gTake cY [b0, b1, some (1, nD ns), some (3, .lst (hs.map (yD cY ns))), b4, b5, none, b7, b8, b9, some (0, .int (w : Nat)), some (1, hD h), some (0, .int a), some (0, .int o), b14]
      = some (.nx [b0, b1, some (1, nD ns), some (3, .lst ((hs.set w (hDel h (a, o))).map (yD cY ns))), b4, b5, none, b7, b8, b9, some (0, .int (w : Nat)), some (1, hD (hDel h (a, o))), some (0, .int a), some (0, .int o), b14]) := by
  have x1 := ix_nm (ns := ns) (n := 1) (m := 0) (Nat.le_refl 1) a0 a1
  have x2 := ix_nm (ns := ns) (n := 1) (m := 0) (Nat.le_refl 1) o0 o1
  have t2 : ∀ (x y : Int), oTup [(0, .int x), (0, .int y)] = some (0, .tup [.int x, .int y]) := fun _ _ => rfl
  have n1 : oNeA (0, .int v) (0, .int v) = some (0, .bl false) := ne_self' rfl
  have hD1 : asDct (1, hD h) = some (hD h) := rfl
  refine (gIfUU_ok (utake_ok N rfl rfl hw a0 a1 o0 o1 hne hq (by simp [x1, x2])) (y := .int v) (e3 := [b0, b1, some (1, nD ns), some (3, .lst ((hs.set w (hDel h (a, o))).map (yD cY ns))), b4, b5, none, b7, b8, b9, some (0, .int (w : Nat)), some (1, hD (hDel h (a, o))), some (0, .int a), some (0, .int o), b14]) ?_ n1).trans rfl
  rw [e_popD, plS_get 11 (x := (1, hD h)) rfl]
  simp [t2, hD1, pop_h hq, putN]
end
end G2
namespace G2
open PySem L2 DP
variable {cY : Addr}
section
variable {ns : List Str} {h : Hd} {hs : List Hd} {w : Nat}
/-- two places that differ -/
theorem other_ne {L a q o : Int} (a0 : 0 ≤ a) (a1 : a < L) (q0 : 0 ≤ q) (q1 : q < L - 1) (ho : (a + 1 + q) % L = o) : 0 ≤ o ∧ o < L ∧ a ≠ o := by
  have o0 : 0 ≤ o := by rw [← ho]; exact Int.emod_nonneg _ (by omega)
  have o1 : o < L := by rw [← ho]; exact Int.emod_lt_of_pos _ (by omega)
  refine ⟨o0, o1, ?_⟩
  by_cases w : a + 1 + q < L
  · rw [Int.emod_eq_of_lt (by omega) w] at ho; omega
  · have e : (a + 1 + q) % L = a + 1 + q - L := by
      rw [← Int.sub_emod_right]
      exact Int.emod_eq_of_lt (by omega) (by omega)
    omega
/-- the number that is put -/
theorem most_in (c d : Int) : ∃ v : Int, -big ≤ v ∧ v ≤ big ∧ ∀ B r u t : Int, B = big → r = c % B → u = d % 100 - 50 → t = d / 5000 % 4 →
    oIxA (1, .lst [.int r, .int (-r), .int u, .int B]) (0, .int t) = some (0, .int v) := by
  obtain ⟨B, hB⟩ : ∃ B : Int, B = big := ⟨_, rfl⟩
  have hB0 : 0 < B := by rw [hB]; decide
  have hB1 : 100 < B := by rw [hB]; decide
  obtain ⟨r, hr⟩ : ∃ r, c % B = r := ⟨_, rfl⟩
  have r0 : 0 ≤ r := by rw [← hr]; exact Int.emod_nonneg _ (by omega)
  have r1 : r < B := by rw [← hr]; exact Int.emod_lt_of_pos _ (by omega)
  obtain ⟨sd, es, qs⟩ := ixA_l (n := 1) (m := 0) (xs := [.int r, .int (-r), .int (d % 100 - 50), .int B]) (i := d / 5000 % 4) (Nat.le_refl 1) (by omega) (by show d / 5000 % 4 < (4 : Int); omega)
  have mm := List.mem_of_getElem? es
  simp only [List.mem_cons, List.not_mem_nil, or_false] at mm
  have fin : ∀ v : Int, sd = .int v → -B ≤ v → v ≤ B → ∃ v : Int, -big ≤ v ∧ v ≤ big ∧ ∀ B r u t : Int, B = big → r = c % B → u = d % 100 - 50 → t = d / 5000 % 4 →
      oIxA (1, .lst [.int r, .int (-r), .int u, .int B]) (0, .int t) = some (0, .int v) := fun v e h1 h2 => by
    subst e
    refine ⟨v, by rw [← hB]; exact h1, by rw [← hB]; exact h2, fun B' r' u t e1 e2 e3 e4 => ?_⟩
    have : B' = B := by rw [e1, hB]
    subst this
    rw [e2, hr, e3, e4]
    exact qs
  rcases mm with e | e | e | e
  · exact fin r e (by omega) (by omega)
  · exact fin (-r) e (by omega) (by omega)
  · exact fin _ e (by omega) (by omega)
  · exact fin B e (by omega) (by omega)
abbrev gDeed (cY : Addr) : Gs := gSeq (gSet 12 (f2 oMod (f2 oDiv (fVarW 9) (fK (.int 11))) (fVarW 1))) (gSeq (gSet 13 (f2 oMod (f2 oAddA (f2 oAddA (fVarW 12) (fK (.int 1))) (f2 oMod (f2 oDiv (fVarW 9) (fK (.int 220))) (f2 oSub (fVarW 1) (fK (.int 1))))) (fVarW 1))) (gSeq (gSet 14 (f2 oIxA (fLst 0 (fCons (f2 oMod (fVarW 8) (f2 oPow (fK (.int 10)) (fK (.int 60)))) (fCons (f1 oNeg (f2 oMod (fVarW 8) (f2 oPow (fK (.int 10)) (fK (.int 60))))) (fCons (f2 oSub (f2 oMod (fVarW 9) (fK (.int 100))) (fK (.int 50))) (fCons (f2 oPow (fK (.int 10)) (fK (.int 60))) fNil))))) (f2 oMod (f2 oDiv (fVarW 9) (fK (.int 5000))) (fK (.int 4))))) (gPut cY)))
theorem deed_put (N : Nms ns) (hw : hs[w]? = some h) (hl : h.length ≤ 1000) (hm : 1 < ns.length) (c d : Int) (b0 b4 b5 b7 b12 b13 b14 : Option Sv) : ∃ a o v : Int, 0 ≤ a ∧ a < (ns.length : Int) ∧ 0 ≤ o ∧ o < (ns.length : Int) ∧ a ≠ o ∧
    gDeed cY [b0, some (0, .int (ns.length : Nat)), some (1, nD ns), some (3, .lst (hs.map (yD cY ns))), b4, b5, none, b7, some (0, .int c), some (0, .int d), some (0, .int (w : Nat)), some (1, hD h), b12, b13, b14]
      = some (.nx [b0, some (0, .int (ns.length : Nat)), some (1, nD ns), some (3, .lst ((hs.set w (hPut h (a, o) v)).map (yD cY ns))), b4, b5, none, b7, some (0, .int c), some (0, .int d), some (0, .int (w : Nat)), some (1, hD (hPut h (a, o) v)), some (0, .int a), some (0, .int o), some (0, .int v)]) := by
  obtain ⟨v, v0, v1, hv⟩ := most_in c d
  obtain ⟨L, hL⟩ : ∃ L : Int, L = ns.length := ⟨_, rfl⟩
  have hL1 : 1 < L := by omega
  obtain ⟨a, ha⟩ : ∃ a, d / 11 % L = a := ⟨_, rfl⟩
  obtain ⟨q, hq⟩ : ∃ q, d / 220 % (L - 1) = q := ⟨_, rfl⟩
  obtain ⟨o, ho⟩ : ∃ o, (a + 1 + q) % L = o := ⟨_, rfl⟩
  have a0 : 0 ≤ a := by rw [← ha]; exact Int.emod_nonneg _ (by omega)
  have a1 : a < L := by rw [← ha]; exact Int.emod_lt_of_pos _ (by omega)
  have q0 : 0 ≤ q := by rw [← hq]; exact Int.emod_nonneg _ (by omega)
  have q1 : q < L - 1 := by rw [← hq]; exact Int.emod_lt_of_pos _ (by omega)
  obtain ⟨o0, o1, hne⟩ := other_ne a0 a1 q0 q1 ho
  have m1 : oDiv (0, .int d) (0, .int 11) = some (0, .int (d / 11)) := div_i (by decide)
  have m2 : oMod (0, .int (d / 11)) (0, .int L) = some (0, .int a) := by rw [mod_i (by omega), ha]
  have m3 : oDiv (0, .int d) (0, .int 220) = some (0, .int (d / 220)) := div_i (by decide)
  have m4 : oMod (0, .int (d / 220)) (0, .int (L - 1)) = some (0, .int q) := by rw [mod_i (by omega), hq]
  have m5 : oMod (0, .int (a + 1 + q)) (0, .int L) = some (0, .int o) := by rw [mod_i (by omega), ho]
  obtain ⟨B, hB⟩ : ∃ B : Int, B = big := ⟨_, rfl⟩
  have hp : oPow (0, .int 10) (0, .int 60) = some (0, .int B) := by rw [hB]; rfl
  have hB0 : 0 < B := by rw [hB]; decide
  obtain ⟨r, hr⟩ : ∃ r, r = c % B := ⟨_, rfl⟩
  obtain ⟨u, hu⟩ : ∃ u, u = d % 100 - 50 := ⟨_, rfl⟩
  obtain ⟨t, ht⟩ : ∃ t, t = d / 5000 % 4 := ⟨_, rfl⟩
  have m6 : oMod (0, .int c) (0, .int B) = some (0, .int r) := by rw [mod_i hB0, hr]
  have m7 : oMod (0, .int d) (0, .int 100) = some (0, .int (d % 100)) := mod_i (by decide)
  have m8 : oDiv (0, .int d) (0, .int 5000) = some (0, .int (d / 5000)) := div_i (by decide)
  have m9 : oMod (0, .int (d / 5000)) (0, .int 4) = some (0, .int t) := by rw [mod_i (by decide), ht]
  have t4 : oLst 0 [(0, .int r), (0, .int (-r)), (0, .int (d % 100 - 50)), (0, .int B)] = some (1, .lst [.int r, .int (-r), .int (d % 100 - 50), .int B]) := oLst_ok rfl (small_le (by simp))
  have h14 := hv B r (d % 100 - 50) t hB hr rfl ht
  rw [hL] at a1 o1
  refine ⟨a, o, v, a0, a1, o0, o1, hne, ?_⟩
  rw [show ((ns.length : Nat) : Int) = L from hL.symm]
  refine sq_set2 (x := (0, .int a)) (by simp [m1, m2]) ?_
  refine sq_set2 (x := (0, .int o)) (by simp [m3, m4, m5]) ?_
  refine sq_set2 (x := (0, .int v)) (by simp [hp, m6, m7, m8, m9, t4, h14]) ?_
  exact put_step N hw a0 a1 o0 o1 hne v0 v1 hl _ _ _ _ _ _ _
end
end G2
namespace G2
open PySem L2 DP
variable {cY : Addr}
theorem gIf_t {t : DP.Env → M Bool} {g1 g2 : Gs} {env : DP.Env} {r : Option Fl} (h : t env = some (.ok true)) (k : g1 env = r) : gIf t g1 g2 env = r := by
  rw [e_gIf, h]
  exact k
theorem gIf_f {t : DP.Env → M Bool} {g1 g2 : Gs} {env : DP.Env} {r : Option Fl} (h : t env = some (.ok false)) (k : g2 env = r) : gIf t g1 g2 env = r := by
  rw [e_gIf, h]
  exact k
section
variable {ns : List Str} {h : Hd} {hs : List Hd} {w : Nat}
abbrev gTk (cY : Addr) : Gs := gIf (fT (f2 oNeA (fVarW 11) (fNewT))) (gSeq (gAsg (gT [12, 13]) (f2 oIxA (fC (c1 oSorted) (fCons (fVarW 11) fNil)) (f2 oMod (f2 oDiv (fVarW 9) (fK (.int 11))) (fC (c1 oLen) (fCons (fVarW 11) fNil))))) (gTake cY)) DP.gNil
theorem deed_take (N : Nms ns) (hw : hs[w]? = some h) (hl : h.length ≤ 1000) (hk : HK ns h) (hn : HN h) (d : Int) (b0 b1 b4 b5 b7 b8 b12 b13 b14 : Option Sv) : ∃ (h' : Hd) (c12 c13 : Option Sv), HK ns h' ∧ h'.length ≤ h.length ∧ HN h' ∧
    gTk cY [b0, b1, some (1, nD ns), some (3, .lst (hs.map (yD cY ns))), b4, b5, none, b7, b8, some (0, .int d), some (0, .int (w : Nat)), some (1, hD h), b12, b13, b14]
      = some (.nx [b0, b1, some (1, nD ns), some (3, .lst ((hs.set w h').map (yD cY ns))), b4, b5, none, b7, b8, some (0, .int d), some (0, .int (w : Nat)), some (1, hD h'), c12, c13, b14]) := by
  have ne := ne0_h (n := 1) (m := 1) (Nat.le_refl 1) (Nat.le_refl 1) h
  by_cases c : h.length = 0
  · refine ⟨h, b12, b13, hk, Nat.le_refl _, hn, ?_⟩
    rw [show hs.set w h = hs from set_same hw]
    have t1 : fT (f2 oNeA (fVarW 11) fNewT) [b0, b1, some (1, nD ns), some (3, .lst (hs.map (yD cY ns))), b4, b5, none, b7, b8, some (0, .int d), some (0, .int (w : Nat)), some (1, hD h), b12, b13, b14] = some (.ok false) := by
      simp [ne, c]
    exact gIf_f t1 rfl
  · have hpos : 0 < h.length := Nat.pos_of_ne_zero c
    obtain ⟨L, hL⟩ : ∃ L : Int, L = h.length := ⟨_, rfl⟩
    obtain ⟨i, hi⟩ : ∃ i, d / 11 % L = i := ⟨_, rfl⟩
    have i0 : 0 ≤ i := by rw [← hi]; exact Int.emod_nonneg _ (by omega)
    have i1 : i < L := by rw [← hi]; exact Int.emod_lt_of_pos _ (by omega)
    obtain ⟨dd, ed, qd⟩ := ixA_l (n := 1) (m := 0) (xs := (keysH h).map tupP) (i := i) (Nat.le_refl 1) i0 (by rw [List.length_map, keys_len]; omega)
    rw [List.getElem?_map] at ed
    cases ek : (keysH h)[i.toNat]? with
    | none => rw [ek] at ed; cases ed
    | some p =>
      rw [ek] at ed
      cases ed
      have mp := List.mem_of_getElem? ek
      obtain ⟨a0, a1, o0, o1⟩ := hk p (keys_mem.mp mp)
      have hne := hn p (keys_mem.mp mp)
      have hq : hGet h (p.1, p.2) = some (vOf h p) := keys_get mp
      refine ⟨hDel h (p.1, p.2), some (0, .int p.1), some (0, .int p.2), hk.del _, hDel_len _ _, hn.del _, ?_⟩
      have t1 : fT (f2 oNeA (fVarW 11) fNewT) [b0, b1, some (1, nD ns), some (3, .lst (hs.map (yD cY ns))), b4, b5, none, b7, b8, some (0, .int d), some (0, .int (w : Nat)), some (1, hD h), b12, b13, b14] = some (.ok true) := by
        simp [ne, c]
      refine gIf_t t1 ?_
      have m1 : oDiv (0, .int d) (0, .int 11) = some (0, .int (d / 11)) := div_i (by decide)
      have m2 : oMod (0, .int (d / 11)) (0, .int L) = some (0, .int i) := by rw [mod_i (by omega), hi]
      have ln : oLen (1, hD h) = some (0, .int L) := by rw [len_h (Nat.le_refl 1), hL]
      have so := sorted_h (n := 1) (Nat.le_refl 1) h
      refine sq_nx (env' := [b0, b1, some (1, nD ns), some (3, .lst (hs.map (yD cY ns))), b4, b5, none, b7, b8, some (0, .int d), some (0, .int (w : Nat)), some (1, hD h), some (0, .int p.1), some (0, .int p.2), b14]) ?_ (take_step N hw a0 a1 o0 o1 hne hq _ _ _ _ _ _ _ _)
      have f : f2 oIxA (fC (c1 oSorted) (fCons (fVarW 11) fNil)) (f2 oMod (f2 oDiv (fVarW 9) (fK (.int 11))) (fC (c1 oLen) (fCons (fVarW 11) fNil))) [b0, b1, some (1, nD ns), some (3, .lst (hs.map (yD cY ns))), b4, b5, none, b7, b8, some (0, .int d), some (0, .int (w : Nat)), some (1, hD h), b12, b13, b14] = some (.ok (0, tupP p)) := by
        simp [so, ln, m1, m2, qd]
      rw [e_gAsg]
      exact (congrArg (fun z => gM z _ _) f).trans rfl
end
end G2
namespace G2
open PySem L2 DP
variable {cY : Addr}
theorem al_ok {i j n' : Nat} {p : List Nat} {x : Sv} {e0 e' : D} {f : DP.Env → M Sv} {gb : Gs} {env env2 : DP.Env} (h : plGet (plE i f) env = some (.ok (p, x, (n' + 1, e0)))) (hl : j < env.length) (hb : gb ((env.set i none).set j (some (n' + 1, e0))) = some (.nx env2)) (he : env2[j]? = some (some (n' + 1, e'))) :
    gAl i j f gb env = some (.nx ((env2.set j none).set i (some (x.1, putN p x.2 e')))) := by
  unfold gAl
  rw [h]
  dsimp only
  rw [if_pos ⟨by omega, hl⟩, hb]
  show (match env2[j]? with | some (some (m, e)) => if m = n' + 1 then some (Fl.nx ((env2.set j none).set i (some (x.1, putN p x.2 e)))) else none | _ => none) = _
  rw [he]
  show (if n' + 1 = n' + 1 then _ else _) = _
  rw [if_pos rfl]
section
variable {ns : List Str} {h : Hd} {hs : List Hd} {w : Nat}
abbrev gInner (cY : Addr) : Gs := gSeq (gIf (fAnd (fT (f2 oGt (fVarW 1) (fK (.int 1)))) (fT (f2 oGt (f2 oMod (fVarW 9) (fK (.int 4))) (fK (.int 0))))) (gDeed cY) (gTk cY)) (gIf (fNot (fT (fCall (m__law_right cY) (fCons (f2 oIxN (fVarW 3) (fVarW 10)) (fCons (fVarW 2) (fCons (fVarW 11) (fCons (f2 oDiv (fVarW 9) (fK (.int 13))) fNil))))))) (gRet (fK (.bl false))) DP.gNil)
theorem check_ok (N : Nms ns) (hw : hs[w]? = some h) (hl : h.length ≤ 1000) (hk : HK ns h) (d : Int) (b0 b1 b4 b5 b7 b8 b12 b13 b14 : Option Sv) :
    gIf (fNot (fT (fCall (m__law_right cY) (fCons (f2 oIxN (fVarW 3) (fVarW 10)) (fCons (fVarW 2) (fCons (fVarW 11) (fCons (f2 oDiv (fVarW 9) (fK (.int 13))) fNil))))))) (gRet (fK (.bl false))) DP.gNil
      [b0, b1, some (1, nD ns), some (3, .lst (hs.map (yD cY ns))), b4, b5, none, b7, b8, some (0, .int d), some (0, .int (w : Nat)), some (1, hD h), b12, b13, b14]
      = some (.nx [b0, b1, some (1, nD ns), some (3, .lst (hs.map (yD cY ns))), b4, b5, none, b7, b8, some (0, .int d), some (0, .int (w : Nat)), some (1, hD h), b12, b13, b14]) := by
  have r := right_ok (cY := cY) N hl hk (d / 13)
  have m1 : oDiv (0, .int d) (0, .int 13) = some (0, .int (d / 13)) := div_i (by decide)
  have x1 := ixN_at (n := 3) (m := 0) (yds_get (cY := cY) (ns := ns) hw)
  refine gIf_f ?_ rfl
  simp [x1, m1, r]
end
end G2
namespace G2
open PySem L2 DP
variable {cY : Addr}
section
variable {ns : List Str} {h : Hd} {hs : List Hd} {w : Nat}
theorem inner_ok (N : Nms ns) (hw : hs[w]? = some h) (hl : h.length ≤ 900) (hk : HK ns h) (hn : HN h) (c d : Int) (b0 b4 b5 b7 b12 b13 b14 : Option Sv) : ∃ (h' : Hd) (c12 c13 c14 : Option Sv), HK ns h' ∧ h'.length ≤ h.length + 1 ∧ HN h' ∧
    gInner cY [b0, some (0, .int (ns.length : Nat)), some (1, nD ns), some (3, .lst (hs.map (yD cY ns))), b4, b5, none, b7, some (0, .int c), some (0, .int d), some (0, .int (w : Nat)), some (1, hD h), b12, b13, b14]
      = some (.nx [b0, some (0, .int (ns.length : Nat)), some (1, nD ns), some (3, .lst ((hs.set w h').map (yD cY ns))), b4, b5, none, b7, some (0, .int c), some (0, .int d), some (0, .int (w : Nat)), some (1, hD h'), c12, c13, c14]) := by
  have m1 : oMod (0, .int d) (0, .int 4) = some (0, .int (d % 4)) := mod_i (by decide)
  have hwl := (List.getElem?_eq_some_iff.mp hw).1
  have hw' : ∀ h' : Hd, (hs.set w h')[w]? = some h' := fun h' => List.getElem?_set_self hwl
  by_cases t : 1 < ns.length ∧ 0 < d % 4
  · obtain ⟨a, o, v, a0, a1, o0, o1, hne, e⟩ := deed_put (cY := cY) N hw (by omega) t.1 c d b0 b4 b5 b7 b12 b13 b14
    have k' := hk.put (p := (a, o)) ⟨a0, a1, o0, o1⟩ v
    have l' := hPut_len h (a, o) v
    refine ⟨hPut h (a, o) v, some (0, .int a), some (0, .int o), some (0, .int v), k', l', hn.put (p := (a, o)) hne v, ?_⟩
    have t1 : (1 : Int) < (ns.length : Nat) := by omega
    refine sq_nx (gIf_t ?_ e) (check_ok N (hw' _) (by omega) k' d _ _ _ _ _ _ _ _ _)
    simp [m1, t1, t.2]
  · obtain ⟨h', c12, c13, k', l', n', e⟩ := deed_take (cY := cY) N hw (by omega) hk hn d b0 (some (0, .int (ns.length : Nat))) b4 b5 b7 (some (0, .int c)) b12 b13 b14
    refine ⟨h', c12, c13, b14, k', by omega, n', ?_⟩
    refine sq_nx (gIf_f ?_ e) (check_ok N (hw' _) (by omega) k' d _ _ _ _ _ _ _ _ _)
    by_cases t1 : 1 < ns.length
    · have t2 : ¬ 0 < d % 4 := fun z => t ⟨t1, z⟩
      have t3 : (1 : Int) < (ns.length : Nat) := by omega
      simp [m1, t3, t2]
    · have t3 : ¬ (1 : Int) < (ns.length : Nat) := by omega
      simp [t3]
end
end G2
namespace G2
open PySem L2 DP
variable {cY : Addr}
abbrev gTurn (cY : Addr) : Gs := gSeq (gSet 9 (fCall (m__law_spread cY) (fCons (fVarW 8) (fCons (fVarW 7) fNil)))) (gSeq (gSet 10 (f2 oDiv (f2 oMod (f2 oDiv (fVarW 9) (fK (.int 7))) (fK (.int 5))) (fK (.int 4)))) (gAl 6 11 (fVarW 10) (gInner cY)))
section
variable {ns : List Str} {hs : List Hd}
theorem turn_ok (N : Nms ns) {n : Nat} (s : St2 ns n hs) (hn : n ≤ 900) (at_ c : Int) (h0 : 0 ≤ at_) (h1 : at_ ≤ 1000) (b0 b4 b5 b9 b10 b12 b13 b14 : Option Sv) :
    ∃ (hs' : List Hd) (c9 c10 c12 c13 c14 : Option Sv), St2 ns (n + 1) hs' ∧
    gTurn cY [b0, some (0, .int (ns.length : Nat)), some (1, nD ns), some (3, .lst (hs.map (yD cY ns))), b4, b5, some (2, .lst (hs.map hD)), some (0, .int at_), some (0, .int c), b9, b10, none, b12, b13, b14]
      = some (.nx [b0, some (0, .int (ns.length : Nat)), some (1, nD ns), some (3, .lst (hs'.map (yD cY ns))), b4, b5, some (2, .lst (hs'.map hD)), some (0, .int at_), some (0, .int c), c9, c10, none, c12, c13, c14]) := by
  obtain ⟨d, hd⟩ : ∃ d : Int, sprd c at_ = d := ⟨_, rfl⟩
  have sp : m__law_spread cY [.int c, .int at_] = some (.ok (0, .int d)) := by rw [← hd]; exact spread_ok c at_ h0 h1
  have dl := sprd_lt c at_
  rw [hd] at dl
  obtain ⟨w, hw⟩ : ∃ w : Nat, d / 7 % 5 / 4 = (w : Int) := Int.eq_ofNat_of_zero_le (by omega)
  have hw2 : w < hs.length := by rw [s.len]; omega
  obtain ⟨h, eh⟩ : ∃ h, hs[w]? = some h := ⟨hs[w], List.getElem?_eq_getElem hw2⟩
  obtain ⟨k1, k2, k3⟩ := s.ok h (List.mem_of_getElem? eh)
  have m1 : oDiv (0, .int d) (0, .int 7) = some (0, .int (d / 7)) := div_i (by decide)
  have m2 : oMod (0, .int (d / 7)) (0, .int 5) = some (0, .int (d / 7 % 5)) := mod_i (by decide)
  have m3 : oDiv (0, .int (d / 7 % 5)) (0, .int 4) = some (0, .int (w : Int)) := by rw [← hw]; exact div_i (by decide)
  obtain ⟨h', c12, c13, c14, q1, q2, q3, q⟩ := inner_ok (cY := cY) N eh (by omega) k1 k3 c d b0 b4 b5 (some (0, .int at_)) b12 b13 b14
  refine ⟨hs.set w h', some (0, .int d), some (0, .int (w : Nat)), c12, c13, c14, s.put q1 (by omega) q3, ?_⟩
  refine sq_set2 (x := (0, .int d)) (by simp [sp]) ?_
  refine sq_set2 (x := (0, .int (w : Nat))) (by simp [m1, m2, m3]) ?_
  have eD : (hs.map hD)[w]? = some (hD h) := by rw [List.getElem?_map, eh]; rfl
  refine (al_ok (n' := 0) (p := [w]) (x := (2, .lst (hs.map hD))) (e0 := hD h) (e' := hD h') (plE_get (n := 1) (m := 0) (w := w) rfl rfl eD) (by simp) q rfl).trans ?_
  rw [putN_lst eD, ← List.map_set]
  rfl
end
end G2
namespace G2
open PySem L2 DP
variable {cY : Addr}
abbrev gNew (cY : Addr) : Gs := gSeq (gSet 5 (fC (c1 oList) (fCons (fVarW 2) fNil))) (gSeq (gU (uApp (plS 3) (fMake cY 1 (m_Yard___init__ cY) (fCons (fVarW 5) fNil)))) (gU (uApp (plS 5) (fK (.str "more")))))
section
variable {ns : List Str} {hs : List Hd}
theorem flat_y (ns : List Str) : flatN 2 (yD cY ns []) = true := by
  simp [yD, nD, hD, flatN, flatT]
theorem new_ok (N : Nms ns) (ys : List D) (hy : ys.length ≤ 10) (b0 b1 b4 b5 b6 b7 b8 b9 b10 b11 b12 b13 b14 : Option Sv) : ∃ c5, gNew cY [b0, b1, some (1, nD ns), some (3, .lst ys), b4, b5, b6, b7, b8, b9, b10, b11, b12, b13, b14]
    = some (.nx [b0, b1, some (1, nD ns), some (3, .lst (ys ++ [yD cY ns []])), b4, c5, b6, b7, b8, b9, b10, b11, b12, b13, b14]) := by
  refine ⟨some (1, .lst (ns.map D.str ++ [.str "more"])), ?_⟩
  have hy2 : ys.length < sizeLine := Nat.lt_of_lt_of_le (show ys.length < 3000 by omega) (small_le (by decide))
  have hn2 : (ns.map D.str).length < sizeLine := Nat.lt_of_lt_of_le (show (ns.map D.str).length < 3000 by rw [List.length_map]; have := N.most; omega) (small_le (by decide))
  have l1 : oList (1, nD ns) = some (1, nD ns) := list_n (Nat.le_refl 1)
  have cl : ∀ xs : List Sv, clR xs (some (.ok (2, yD cY ns []))) = some (.ok (2, yD cY ns [])) := fun xs => by
    show (if (lv0 xs || flatN 2 (yD cY ns [])) = true then M.ok _ else M.no) = _
    rw [flat_y, Bool.or_true, if_pos rfl]
  have mk : mkR 2 (m_Yard___init__ cY [.ins cY [] [], nD ns]) = some (.ok (2, yD cY ns [])) := by rw [init_ok N]; rfl
  refine sq_set2 (x := (1, nD ns)) (by simp [l1]) ?_
  refine sq_u (x := .non) (env' := [b0, b1, some (1, nD ns), some (3, .lst (ys ++ [yD cY ns []])), b4, some (1, nD ns), b6, b7, b8, b9, b10, b11, b12, b13, b14]) ?_ ?_
  · rw [e_app, plS_get 3 (x := (3, .lst ys)) rfl]
    simp [mk, cl, hy2, putN]
  · rw [e_gU, e_app, plS_get 5 (x := (1, .lst (ns.map D.str))) rfl]
    rw [List.length_map] at hn2
    simp [hn2, putN]
end
end G2
namespace G2
open PySem L2 DP
variable {cY : Addr}
theorem en_get {ds : List D} {j : Nat} {d : D} (h : (enD ds)[j]? = some d) : ∃ e, ds[j]? = some e ∧ d = .tup [.int (j : Nat), e] := by
  unfold enD at h
  rw [List.getElem?_map, List.getElem?_zipIdx] at h
  cases q : ds[j]? with
  | none => rw [q] at h; cases h
  | some e =>
    rw [q] at h
    refine ⟨e, rfl, ?_⟩
    have := Option.some.inj h
    rw [← this]
    simp
theorem mem_cut {xs : List D} {lo hi : Option Int} {d : D} (h : d ∈ cutD xs lo hi) : d ∈ xs := by
  unfold cutD at h
  exact List.mem_of_mem_drop (List.mem_of_mem_take h)
theorem len_cut (xs : List D) (lo hi : Option Int) : (cutD xs lo hi).length ≤ xs.length := by
  unfold cutD
  rw [List.length_take, List.length_drop]; omega
theorem law_ok (s : List Int) (hs : s.length ≤ 63) : m_law cY [.sl (s.map D.int)] = some (.ok (0, .bl true)) := by
  obtain ⟨m, m1, m2, em⟩ := many_ok (cY := cY) s
  have ed : m__law_draw cY [.sl (s.map D.int), .int 0] = some (.ok (0, .int (s.getD 0 0))) := draw_ok s 0
  obtain ⟨ns, N, el, en⟩ := names_fn (cY := cY) (s.getD 0 0) m m1 m2
  subst el
  generalize hg : s.getD 0 0 = c0 at ed en
  have hg' : s[0]?.getD 0 = c0 := by rw [← hg, List.getD_eq_getElem?_getD]
  refine runG_rt rfl ?_
  unfold g_law
  refine sq_set2 (x := (0, .int (ns.length : Nat))) (by simp [em, env0]) ?_
  have cl0 : ∀ a b : Int, clR [((0, .int a) : Sv), (0, .int b)] (some (.ok (1, nD ns))) = some (.ok (1, nD ns)) := fun a b => clR0 rfl
  refine sq_set2 (x := (1, nD ns)) (by simp [ed, en, env0, cl0, hg']) ?_
  refine sq_set2 (x := (3, .lst [])) (by simp) ?_
  refine sq_forN (ds := [.int 0, .int 1]) (fun j env => ∃ b4 b5, env = [some (0, .sl (s.map D.int)), some (0, .int (ns.length : Nat)), some (1, nD ns), some (3, .lst (List.replicate j (yD cY ns []))), b4, b5, none, none, none, none, none, none, none, none, none]) ?_ ⟨none, none, rfl⟩ (fun j d hj env ⟨b4, b5, e⟩ => ?_) (fun env ⟨b4, b5, e⟩ => ?_)
  · have : asR1 [((0, .int 2) : Sv)] = some (.ok (rgD 0 2)) := rg_k (n := 2) (by omega)
    simp [this]; rfl
  · subst e
    have hj2 := (List.getElem?_eq_some_iff.mp hj).1
    obtain ⟨c5, q⟩ := new_ok (cY := cY) N (List.replicate j (yD cY ns [])) (by rw [List.length_replicate]; exact Nat.le_trans (Nat.le_of_lt hj2) (by decide)) (some (0, .sl (s.map D.int))) (some (0, .int (ns.length : Nat))) (some (0, d)) b5 none none none none none none none none none
    refine ⟨_, _, rfl, q, some (0, d), c5, ?_⟩
    rw [List.replicate_succ']
  · subst e
    have h2 : ∀ ds : List D, asL ((1, .lst ds) : Sv) = some (.ok ds) := fun _ => rfl
    refine sq_set2 (x := (2, .lst [hD [], hD []])) rfl ?_
    have hcl : (cutD (s.map D.int) (some 3) (some 63)).length ≤ 63 := Nat.le_trans (len_cut _ _ _) (by rw [List.length_map]; exact hs)
    refine sq_forN (ds := enD (cutD (s.map D.int) (some 3) (some 63))) (fun j env => ∃ (hs : List Hd) (b4 b5 b7 b8 b9 b10 b12 b13 b14 : Option Sv), St2 ns j hs ∧ env = [some (0, .sl (s.map D.int)), some (0, .int (ns.length : Nat)), some (1, nD ns), some (3, .lst (hs.map (yD cY ns))), b4, b5, some (2, .lst (hs.map hD)), b7, b8, b9, b10, none, b12, b13, b14]) ?_ ?_ (fun j d hj env ⟨hs, b4, b5, b7, b8, b9, b10, b12, b13, b14, S, e⟩ => ?_) (fun env ⟨hs, b4, b5, b7, b8, b9, b10, b12, b13, b14, S, e⟩ => ?_)
    · have : oSlL ((0, .sl (s.map D.int)) : Sv) (some 3) (some 63) = some (1, .lst (cutD (s.map D.int) (some 3) (some 63))) := slLsl
      simp [this, asI]; rfl
    · exact ⟨[[], []], b4, b5, none, none, none, none, none, none, none, ⟨rfl, fun h mh => by
        have : h = [] := by simpa using mh
        subst this
        exact ⟨(fun p mp => nomatch mp), Nat.le_refl _, (fun p mp => nomatch mp)⟩⟩, rfl⟩
    · subst e
      obtain ⟨e, he, rfl⟩ := en_get hj
      have hj2 := (List.getElem?_eq_some_iff.mp he).1
      obtain ⟨c, _, rfl⟩ := List.mem_map.mp (mem_cut (List.mem_of_getElem? he))
      obtain ⟨hs', c9, c10, c12, c13, c14, S', q⟩ := turn_ok (cY := cY) N S (by omega) (j : Nat) c (by omega) (by omega) (some (0, .sl (s.map D.int))) b4 b5 b9 b10 b12 b13 b14
      refine ⟨_, _, ?_, q, hs', b4, b5, _, _, _, _, _, _, _, S', rfl⟩
      rw [e_gT]
      rfl
    · subst e
      have hlen : (enD (cutD (s.map D.int) (some 3) (some 63))).length ≤ 63 := by unfold enD; simpa using hcl
      obtain ⟨h0, h1, rfl⟩ : ∃ h0 h1, hs = [h0, h1] := by
        have := S.len
        match hs, this with
        | [a, b], _ => exact ⟨a, b, rfl⟩
      have o0 := S.ok h0 (by simp)
      have o1 := S.ok h1 (by simp)
      have r0 := right_ok (cY := cY) N (show h0.length ≤ 1000 by omega) o0.1 5
      have r1 := right_ok (cY := cY) N (show h1.length ≤ 1000 by omega) o1.1 6
      have x0 : oIxN (3, .lst [yD cY ns h0, yD cY ns h1]) (0, .int 0) = some (2, yD cY ns h0) := rfl
      have x1 : oIxN (3, .lst [yD cY ns h0, yD cY ns h1]) (0, .int 1) = some (2, yD cY ns h1) := rfl
      have x2 : oIxN (2, .lst [hD h0, hD h1]) (0, .int 0) = some (1, hD h0) := rfl
      have x3 : oIxN (2, .lst [hD h0, hD h1]) (0, .int 1) = some (1, hD h1) := rfl
      simp [x0, x1, x2, x3, r0, r1]
end G2
set_option pp.deepTerms false
set_option pp.maxSteps 300
namespace G2
open PySem L2 DP
theorem all_mk {l : PySem.W.OpenLaw} {w : World} {K : PySem.W.Frag} {h : Heap} {mg : Str → Option Value} {fa : Addr} (X : K.In h) (G : h.Ns mainGlobals mg) (hfa : mg "law" = some (.ref fa))
    {fY : Addr} {oc0 : Value} {od0 an0 : Option Addr} {sl0 : Array (Option Value)} {kV0 dc0 pm0 cd0 ct0 : Value} {f0 : Addr} {oc1 : Value} {od1 an1 : Option Addr} {sl1 : Array (Option Value)} {kV1 dc1 pm1 cd1 ct1 : Value} {f1 : Addr} {oc2 : Value} {od2 an2 : Option Addr} {sl2 : Array (Option Value)} {kV2 dc2 pm2 cd2 ct2 : Value} {f2 : Addr} {oc3 : Value} {od3 an3 : Option Addr} {sl3 : Array (Option Value)} {kV3 dc3 pm3 cd3 ct3 : Value} {f3 : Addr} {oc4 : Value} {od4 an4 : Option Addr} {sl4 : Array (Option Value)} {kV4 dc4 pm4 cd4 ct4 : Value} {f4 : Addr} {oc5 : Value} {od5 an5 : Option Addr} {sl5 : Array (Option Value)} {kV5 dc5 pm5 cd5 ct5 : Value} {f5 : Addr} {oc6 : Value} {od6 an6 : Option Addr} {sl6 : Array (Option Value)} {kV6 dc6 pm6 cd6 ct6 : Value} {f6 : Addr} {oc7 : Value} {od7 an7 : Option Addr} {sl7 : Array (Option Value)} {kV7 dc7 pm7 cd7 ct7 : Value} {f7 : Addr} {oc8 : Value} {od8 an8 : Option Addr} {sl8 : Array (Option Value)} {kV8 dc8 pm8 cd8 ct8 : Value} {f8 : Addr} {oc9 : Value} {od9 an9 : Option Addr} {sl9 : Array (Option Value)} {kV9 dc9 pm9 cd9 ct9 : Value} {f9 : Addr} {oc10 : Value} {od10 an10 : Option Addr} {sl10 : Array (Option Value)} {kV10 dc10 pm10 cd10 ct10 : Value} {f10 : Addr} {oc11 : Value} {od11 an11 : Option Addr} {sl11 : Array (Option Value)} {kV11 dc11 pm11 cd11 ct11 : Value} {f11 : Addr} {oc12 : Value} {od12 an12 : Option Addr} {sl12 : Array (Option Value)} {kV12 dc12 pm12 cd12 ct12 : Value} {f12 : Addr} {oc13 : Value} {od13 an13 : Option Addr} {sl13 : Array (Option Value)} {kV13 dc13 pm13 cd13 ct13 : Value} {f13 : Addr} {oc14 : Value} {od14 an14 : Option Addr} {sl14 : Array (Option Value)} {kV14 dc14 pm14 cd14 ct14 : Value} {f14 : Addr} {oc15 : Value} {od15 an15 : Option Addr} {sl15 : Array (Option Value)} {kV15 dc15 pm15 cd15 ct15 : Value} {f15 : Addr} {oc16 : Value} {od16 an16 : Option Addr} {sl16 : Array (Option Value)} {kV16 dc16 pm16 cd16 ct16 : Value} {f16 : Addr} {oc17 : Value} {od17 an17 : Option Addr} {sl17 : Array (Option Value)} {kV17 dc17 pm17 cd17 ct17 : Value} {f17 : Addr} {oc18 : Value} {od18 an18 : Option Addr} {sl18 : Array (Option Value)} {kV18 dc18 pm18 cd18 ct18 : Value} {f18 : Addr} {t_LETTERS : Tok} {t_MOST_LETTERS : Tok} {t_MOST_NUMBER : Tok} {t_MOST_MOMENTS : Tok}
    (aC : PySem.W.nsIn K mainGlobals "Yard" = some (some (.ref fY))) (pg : PySem.W.plainGet K fY Str.empty = true) (hd : PySem.W.hasDictIn K fY = true) (po : PySem.W.plainOver K fY = true) (sa : PySem.W.findIn K (.ref fY) "__setattr__" = some (some (.builtin "object.__setattr__"))) (mk : PySem.W.makesIn K fY = true) (kc : PySem.W.keepIn K (.ref fY) = true)
    (x_moments : PySem.W.findIn K (.ref fY) "moments" = some none)
    (x_held : PySem.W.findIn K (.ref fY) "held" = some none)
    (a0 : PySem.W.nsIn K mainGlobals "is_name" = some (some (.ref f0))) (l0 : K.lookup f0 = some ⟨oc0, od0, .func (PySem.W.fnOf "is_name" "is_name" (defArgs s_is_name) (defBody s_is_name) (defScope s_is_name) .none kV0 dc0 pm0 an0 cd0 ct0), sl0⟩) (c0 : PySem.W.codeIn K cd0 "is_name" = true) (k0 : PySem.W.keepIn K (.ref f0) = true)
    (a1 : PySem.W.nsIn K mainGlobals "is_whole" = some (some (.ref f1))) (l1 : K.lookup f1 = some ⟨oc1, od1, .func (PySem.W.fnOf "is_whole" "is_whole" (defArgs s_is_whole) (defBody s_is_whole) (defScope s_is_whole) .none kV1 dc1 pm1 an1 cd1 ct1), sl1⟩) (c1 : PySem.W.codeIn K cd1 "is_whole" = true) (k1 : PySem.W.keepIn K (.ref f1) = true)
    (a2 : PySem.W.nsIn K mainGlobals "is_number" = some (some (.ref f2))) (l2 : K.lookup f2 = some ⟨oc2, od2, .func (PySem.W.fnOf "is_number" "is_number" (defArgs s_is_number) (defBody s_is_number) (defScope s_is_number) .none kV2 dc2 pm2 an2 cd2 ct2), sl2⟩) (c2 : PySem.W.codeIn K cd2 "is_number" = true) (k2 : PySem.W.keepIn K (.ref f2) = true)
    (a3 : PySem.W.findIn K (.ref fY) "__init__" = some (some (.ref f3))) (i3 : PySem.W.isFn K (.ref f3) = true) (l3 : K.lookup f3 = some ⟨oc3, od3, .func (PySem.W.fnOf "__init__" "Yard.__init__" (defArgs s_Yard___init__) (defBody s_Yard___init__) (defScope s_Yard___init__) .none kV3 dc3 pm3 an3 cd3 ct3), sl3⟩) (c3 : PySem.W.codeIn K cd3 "Yard.__init__" = true) (k3 : PySem.W.keepIn K (.ref f3) = true)
    (a4 : PySem.W.findIn K (.ref fY) "names" = some (some (.ref f4))) (i4 : PySem.W.isFn K (.ref f4) = true) (l4 : K.lookup f4 = some ⟨oc4, od4, .func (PySem.W.fnOf "names" "Yard.names" (defArgs s_Yard_names) (defBody s_Yard_names) (defScope s_Yard_names) .none kV4 dc4 pm4 an4 cd4 ct4), sl4⟩) (c4 : PySem.W.codeIn K cd4 "Yard.names" = true) (k4 : PySem.W.keepIn K (.ref f4) = true)
    (a5 : PySem.W.findIn K (.ref fY) "place_of" = some (some (.ref f5))) (i5 : PySem.W.isFn K (.ref f5) = true) (l5 : K.lookup f5 = some ⟨oc5, od5, .func (PySem.W.fnOf "place_of" "Yard.place_of" (defArgs s_Yard_place_of) (defBody s_Yard_place_of) (defScope s_Yard_place_of) .none kV5 dc5 pm5 an5 cd5 ct5), sl5⟩) (c5 : PySem.W.codeIn K cd5 "Yard.place_of" = true) (k5 : PySem.W.keepIn K (.ref f5) = true)
    (a6 : PySem.W.findIn K (.ref fY) "places" = some (some (.ref f6))) (i6 : PySem.W.isFn K (.ref f6) = true) (l6 : K.lookup f6 = some ⟨oc6, od6, .func (PySem.W.fnOf "places" "Yard.places" (defArgs s_Yard_places) (defBody s_Yard_places) (defScope s_Yard_places) .none kV6 dc6 pm6 an6 cd6 ct6), sl6⟩) (c6 : PySem.W.codeIn K cd6 "Yard.places" = true) (k6 : PySem.W.keepIn K (.ref f6) = true)
    (a7 : PySem.W.findIn K (.ref fY) "pair_of" = some (some (.ref f7))) (i7 : PySem.W.isFn K (.ref f7) = true) (l7 : K.lookup f7 = some ⟨oc7, od7, .func (PySem.W.fnOf "pair_of" "Yard.pair_of" (defArgs s_Yard_pair_of) (defBody s_Yard_pair_of) (defScope s_Yard_pair_of) .none kV7 dc7 pm7 an7 cd7 ct7), sl7⟩) (c7 : PySem.W.codeIn K cd7 "Yard.pair_of" = true) (k7 : PySem.W.keepIn K (.ref f7) = true)
    (a8 : PySem.W.findIn K (.ref fY) "put" = some (some (.ref f8))) (i8 : PySem.W.isFn K (.ref f8) = true) (l8 : K.lookup f8 = some ⟨oc8, od8, .func (PySem.W.fnOf "put" "Yard.put" (defArgs s_Yard_put) (defBody s_Yard_put) (defScope s_Yard_put) .none kV8 dc8 pm8 an8 cd8 ct8), sl8⟩) (c8 : PySem.W.codeIn K cd8 "Yard.put" = true) (k8 : PySem.W.keepIn K (.ref f8) = true)
    (a9 : PySem.W.findIn K (.ref fY) "take" = some (some (.ref f9))) (i9 : PySem.W.isFn K (.ref f9) = true) (l9 : K.lookup f9 = some ⟨oc9, od9, .func (PySem.W.fnOf "take" "Yard.take" (defArgs s_Yard_take) (defBody s_Yard_take) (defScope s_Yard_take) .none kV9 dc9 pm9 an9 cd9 ct9), sl9⟩) (c9 : PySem.W.codeIn K cd9 "Yard.take" = true) (k9 : PySem.W.keepIn K (.ref f9) = true)
    (a10 : PySem.W.findIn K (.ref fY) "most" = some (some (.ref f10))) (i10 : PySem.W.isFn K (.ref f10) = true) (l10 : K.lookup f10 = some ⟨oc10, od10, .func (PySem.W.fnOf "most" "Yard.most" (defArgs s_Yard_most) (defBody s_Yard_most) (defScope s_Yard_most) .none kV10 dc10 pm10 an10 cd10 ct10), sl10⟩) (c10 : PySem.W.codeIn K cd10 "Yard.most" = true) (k10 : PySem.W.keepIn K (.ref f10) = true)
    (a11 : PySem.W.findIn K (.ref fY) "steps" = some (some (.ref f11))) (i11 : PySem.W.isFn K (.ref f11) = true) (l11 : K.lookup f11 = some ⟨oc11, od11, .func (PySem.W.fnOf "steps" "Yard.steps" (defArgs s_Yard_steps) (defBody s_Yard_steps) (defScope s_Yard_steps) .none kV11 dc11 pm11 an11 cd11 ct11), sl11⟩) (c11 : PySem.W.codeIn K cd11 "Yard.steps" = true) (k11 : PySem.W.keepIn K (.ref f11) = true)
    (a12 : PySem.W.findIn K (.ref fY) "gaps" = some (some (.ref f12))) (i12 : PySem.W.isFn K (.ref f12) = true) (l12 : K.lookup f12 = some ⟨oc12, od12, .func (PySem.W.fnOf "gaps" "Yard.gaps" (defArgs s_Yard_gaps) (defBody s_Yard_gaps) (defScope s_Yard_gaps) .none kV12 dc12 pm12 an12 cd12 ct12), sl12⟩) (c12 : PySem.W.codeIn K cd12 "Yard.gaps" = true) (k12 : PySem.W.keepIn K (.ref f12) = true)
    (a13 : PySem.W.nsIn K mainGlobals "_law_draw" = some (some (.ref f13))) (l13 : K.lookup f13 = some ⟨oc13, od13, .func (PySem.W.fnOf "_law_draw" "_law_draw" (defArgs s__law_draw) (defBody s__law_draw) (defScope s__law_draw) .none kV13 dc13 pm13 an13 cd13 ct13), sl13⟩) (c13 : PySem.W.codeIn K cd13 "_law_draw" = true) (k13 : PySem.W.keepIn K (.ref f13) = true)
    (a14 : PySem.W.nsIn K mainGlobals "_law_spread" = some (some (.ref f14))) (l14 : K.lookup f14 = some ⟨oc14, od14, .func (PySem.W.fnOf "_law_spread" "_law_spread" (defArgs s__law_spread) (defBody s__law_spread) (defScope s__law_spread) .none kV14 dc14 pm14 an14 cd14 ct14), sl14⟩) (c14 : PySem.W.codeIn K cd14 "_law_spread" = true) (k14 : PySem.W.keepIn K (.ref f14) = true)
    (a15 : PySem.W.nsIn K mainGlobals "_law_names" = some (some (.ref f15))) (l15 : K.lookup f15 = some ⟨oc15, od15, .func (PySem.W.fnOf "_law_names" "_law_names" (defArgs s__law_names) (defBody s__law_names) (defScope s__law_names) .none kV15 dc15 pm15 an15 cd15 ct15), sl15⟩) (c15 : PySem.W.codeIn K cd15 "_law_names" = true) (k15 : PySem.W.keepIn K (.ref f15) = true)
    (a16 : PySem.W.nsIn K mainGlobals "_law_many" = some (some (.ref f16))) (l16 : K.lookup f16 = some ⟨oc16, od16, .func (PySem.W.fnOf "_law_many" "_law_many" (defArgs s__law_many) (defBody s__law_many) (defScope s__law_many) .none kV16 dc16 pm16 an16 cd16 ct16), sl16⟩) (c16 : PySem.W.codeIn K cd16 "_law_many" = true) (k16 : PySem.W.keepIn K (.ref f16) = true)
    (a17 : PySem.W.nsIn K mainGlobals "_law_right" = some (some (.ref f17))) (l17 : K.lookup f17 = some ⟨oc17, od17, .func (PySem.W.fnOf "_law_right" "_law_right" (defArgs s__law_right) (defBody s__law_right) (defScope s__law_right) .none kV17 dc17 pm17 an17 cd17 ct17), sl17⟩) (c17 : PySem.W.codeIn K cd17 "_law_right" = true) (k17 : PySem.W.keepIn K (.ref f17) = true)
    (a18 : PySem.W.nsIn K mainGlobals "law" = some (some (.ref f18))) (l18 : K.lookup f18 = some ⟨oc18, od18, .func (PySem.W.fnOf "law" "law" (defArgs s_law) (defBody s_law) (defScope s_law) .none kV18 dc18 pm18 an18 cd18 ct18), sl18⟩) (c18 : PySem.W.codeIn K cd18 "law" = true) (k18 : PySem.W.keepIn K (.ref f18) = true)
    (z_len : PySem.W.nsIn K mainGlobals "len" = some none)
    (z_str : PySem.W.nsIn K mainGlobals "str" = some none)
    (z_int : PySem.W.nsIn K mainGlobals "int" = some none)
    (z_bool : PySem.W.nsIn K mainGlobals "bool" = some none)
    (z_list : PySem.W.nsIn K mainGlobals "list" = some none)
    (z_dict : PySem.W.nsIn K mainGlobals "dict" = some none)
    (z_tuple : PySem.W.nsIn K mainGlobals "tuple" = some none)
    (z_isinstance : PySem.W.nsIn K mainGlobals "isinstance" = some none)
    (z_all : PySem.W.nsIn K mainGlobals "all" = some none)
    (z_sum : PySem.W.nsIn K mainGlobals "sum" = some none)
    (z_min : PySem.W.nsIn K mainGlobals "min" = some none)
    (z_sorted : PySem.W.nsIn K mainGlobals "sorted" = some none)
    (z_range : PySem.W.nsIn K mainGlobals "range" = some none)
    (z_enumerate : PySem.W.nsIn K mainGlobals "enumerate" = some none)
    (z_reversed : PySem.W.nsIn K mainGlobals "reversed" = some none)
    (z_set : PySem.W.nsIn K mainGlobals "set" = some none)
    (n_LETTERS : PySem.W.nsIn K mainGlobals "LETTERS" = some (some (.str "abcdefghijklmnopqrstuvwxyz" t_LETTERS)))
    (n_MOST_LETTERS : PySem.W.nsIn K mainGlobals "MOST_LETTERS" = some (some (.int 8 t_MOST_LETTERS)))
    (n_MOST_NUMBER : PySem.W.nsIn K mainGlobals "MOST_NUMBER" = some (some (.int 1000000000000000000000000000000000000000000000000000000000000 t_MOST_NUMBER)))
    (n_MOST_MOMENTS : PySem.W.nsIn K mainGlobals "MOST_MOMENTS" = some (some (.int 20 t_MOST_MOMENTS))) :
    ∃ fd : FuncData, (∀ (s : Shared) (v : Value), BindsTo s fd ⟨[v], []⟩ [("_law_script", v)]) ∧ ∀ base : Heap, K.In base → base.Ns mainGlobals mg → FnOk l.prog w K mg base (L2.CX l.prog w) 6 fa fd ["_law_script"] (spLaw K) := by
  have e := hfa.symm.trans (PySem.W.mg_of X G a18)
  cases e
  have T : Bt mg := ⟨PySem.W.mg_none_of X G z_len, PySem.W.mg_none_of X G z_str, PySem.W.mg_none_of X G z_int, PySem.W.mg_none_of X G z_bool, PySem.W.mg_none_of X G z_list, PySem.W.mg_none_of X G z_dict, PySem.W.mg_none_of X G z_tuple, PySem.W.mg_none_of X G z_isinstance, PySem.W.mg_none_of X G z_all, PySem.W.mg_none_of X G z_sum, PySem.W.mg_none_of X G z_min, PySem.W.mg_none_of X G z_sorted, PySem.W.mg_none_of X G z_range, PySem.W.mg_none_of X G z_enumerate, PySem.W.mg_none_of X G z_reversed, PySem.W.mg_none_of X G z_set⟩
  have C : Ct mg := ⟨⟨_, PySem.W.mg_of X G n_LETTERS⟩, ⟨_, PySem.W.mg_of X G n_MOST_LETTERS⟩, ⟨_, PySem.W.mg_of X G n_MOST_NUMBER⟩, ⟨_, PySem.W.mg_of X G n_MOST_MOMENTS⟩⟩
  have Y : Yo K mg fY := ⟨⟨pg, hd, po, sa⟩, x_moments, x_held, PySem.W.mg_of X G aC⟩
  refine ⟨PySem.W.fnOf "law" "law" (defArgs s_law) (defBody s_law) (defScope s_law) .none kV18 dc18 pm18 an18 cd18 ct18, fun s v => .of_eq rfl, fun base _ _ => ?_⟩
  have q_is_name := ok_is_name (P := l.prog) (w := w) (base := base) (at_mk (st := s_is_name) X G a0 l0 c0 k0) T C Y
  have q_is_whole := ok_is_whole (P := l.prog) (w := w) (base := base) (at_mk (st := s_is_whole) X G a1 l1 c1 k1) T C Y
  have q_is_number := ok_is_number (P := l.prog) (w := w) (base := base) (at_mk (st := s_is_number) X G a2 l2 c2 k2) T C Y q_is_whole
  have q_Yard___init__ := ok_Yard___init__ (P := l.prog) (w := w) (base := base) ⟨_, _, fun_mk (st := s_Yard___init__) l3 c3 k3, ⟨mk, a3, i3, kc⟩⟩ T C Y q_is_name
  have q_Yard_names := ok_Yard_names (P := l.prog) (w := w) (base := base) ⟨_, _, fun_mk (st := s_Yard_names) l4 c4 k4, ⟨a4, i4, k4⟩⟩ T C Y
  have q_Yard_place_of := ok_Yard_place_of (P := l.prog) (w := w) (base := base) ⟨_, _, fun_mk (st := s_Yard_place_of) l5 c5 k5, ⟨a5, i5, k5⟩⟩ T C Y
  have q_Yard_places := ok_Yard_places (P := l.prog) (w := w) (base := base) ⟨_, _, fun_mk (st := s_Yard_places) l6 c6 k6, ⟨a6, i6, k6⟩⟩ T C Y q_is_name q_Yard_place_of
  have q_Yard_pair_of := ok_Yard_pair_of (P := l.prog) (w := w) (base := base) ⟨_, _, fun_mk (st := s_Yard_pair_of) l7 c7 k7, ⟨a7, i7, k7⟩⟩ T C Y q_Yard_places
  have q_Yard_put := ok_Yard_put (P := l.prog) (w := w) (base := base) ⟨_, _, fun_mk (st := s_Yard_put) l8 c8 k8, ⟨a8, i8, k8⟩⟩ T C Y q_Yard_pair_of q_is_number
  have q_Yard_take := ok_Yard_take (P := l.prog) (w := w) (base := base) ⟨_, _, fun_mk (st := s_Yard_take) l9 c9 k9, ⟨a9, i9, k9⟩⟩ T C Y q_Yard_pair_of
  have q_Yard_most := ok_Yard_most (P := l.prog) (w := w) (base := base) ⟨_, _, fun_mk (st := s_Yard_most) l10 c10 k10, ⟨a10, i10, k10⟩⟩ T C Y q_Yard_pair_of
  have q_Yard_steps := ok_Yard_steps (P := l.prog) (w := w) (base := base) ⟨_, _, fun_mk (st := s_Yard_steps) l11 c11 k11, ⟨a11, i11, k11⟩⟩ T C Y
  have q_Yard_gaps := ok_Yard_gaps (P := l.prog) (w := w) (base := base) ⟨_, _, fun_mk (st := s_Yard_gaps) l12 c12 k12, ⟨a12, i12, k12⟩⟩ T C Y q_Yard_steps
  have q__law_draw := ok__law_draw (P := l.prog) (w := w) (base := base) (at_mk (st := s__law_draw) X G a13 l13 c13 k13) T C Y
  have q__law_spread := ok__law_spread (P := l.prog) (w := w) (base := base) (at_mk (st := s__law_spread) X G a14 l14 c14 k14) T C Y
  have q__law_names := ok__law_names (P := l.prog) (w := w) (base := base) (at_mk (st := s__law_names) X G a15 l15 c15 k15) T C Y q__law_spread
  have q__law_many := ok__law_many (P := l.prog) (w := w) (base := base) (at_mk (st := s__law_many) X G a16 l16 c16 k16) T C Y q__law_draw
  have q__law_right := ok__law_right (P := l.prog) (w := w) (base := base) (at_mk (st := s__law_right) X G a17 l17 c17 k17) T C Y q_Yard_gaps q_Yard_names q_Yard_most
  exact (ok_law (P := l.prog) (w := w) (base := base) (fun_mk (st := s_law) l18 c18 k18) T C Y q__law_many q__law_draw q__law_names q_Yard___init__ q_Yard_put q_Yard_take q__law_right q__law_spread).imp (spLaw_of law_ok)
theorem walk {l : PySem.W.OpenLaw} {q : Program} {loose : List Str} {XP : (Str → Option Value) → Heap → Prop} {YP : World → Heap → Prop} {d : DefRec} {K : Params → PySem.W.Frag} (hn : l.most = some 63) (hdf : d.params.defaults = [])
    (hY : ∀ (w : World) (h : Heap), YP w h → (K w.params).In h)
    (F : ∀ (w : World) (mg : Str → Option Value) (fa : Addr) (h : Heap), (K w.params).In h → h.Ns mainGlobals mg → mg d.name = some (.ref fa) →
      ∃ fd : FuncData, (∀ (s : Shared) (u : Value), BindsTo s fd ⟨[u], []⟩ [("_law_script", u)]) ∧ ∀ base : Heap, (K w.params).In base → base.Ns mainGlobals mg → FnOk l.prog w (K w.params) mg base (L2.CX l.prog w) 6 fa fd ["_law_script"] (spLaw (K w.params))) :
    PySem.W.WalkO q loose XP YP l.row.toRowW d [] (fun f vs => PySem.call f vs) :=
  L2.walk_of (n := 63) (k := 6) (x := "_law_script") (CX := fun w => L2.CX l.prog w) (sp := fun w => spLaw (K w.params)) hn (by decide) hdf ⟨rfl, by decide, by decide⟩ hY F (fun _ _ a ns hl _ hS => ⟨a, ns, rfl, hS, hl, fun _ => rfl⟩) fun _ _ _ _ _ z => cx_end z
end G2
open PySem PySem.W PyProof.Rows in
set_option maxRecDepth 100000 in
set_option maxHeartbeats 0 in
theorem PySem.Challenge.cw_gapyard_k02_gaps_put_and_taken_holds : PySem.Challenge.rw_gapyard_k02_gaps_put_and_taken.Holds := by
  w_on; o_law; k_head; (case hw => w_witness2)
  k_fill
  refine G2.walk (l := PySem.Challenge.rw_gapyard_k02_gaps_put_and_taken) rfl rfl (fun w h Y => PySem.W.kIn_of Y) ?F
  case F =>
    intro w mg fa h KX G hmg
    refine' G2.all_mk KX G hmg ?aC ?pg ?hd ?po ?sa ?mk ?kc ?x_moments ?x_held ?a0 ?l0 ?c0 ?k0 ?a1 ?l1 ?c1 ?k1 ?a2 ?l2 ?c2 ?k2 ?a3 ?i3 ?l3 ?c3 ?k3 ?a4 ?i4 ?l4 ?c4 ?k4 ?a5 ?i5 ?l5 ?c5 ?k5 ?a6 ?i6 ?l6 ?c6 ?k6 ?a7 ?i7 ?l7 ?c7 ?k7 ?a8 ?i8 ?l8 ?c8 ?k8 ?a9 ?i9 ?l9 ?c9 ?k9 ?a10 ?i10 ?l10 ?c10 ?k10 ?a11 ?i11 ?l11 ?c11 ?k11 ?a12 ?i12 ?l12 ?c12 ?k12 ?a13 ?l13 ?c13 ?k13 ?a14 ?l14 ?c14 ?k14 ?a15 ?l15 ?c15 ?k15 ?a16 ?l16 ?c16 ?k16 ?a17 ?l17 ?c17 ?k17 ?a18 ?l18 ?c18 ?k18 ?z_len ?z_str ?z_int ?z_bool ?z_list ?z_dict ?z_tuple ?z_isinstance ?z_all ?z_sum ?z_min ?z_sorted ?z_range ?z_enumerate ?z_reversed ?z_set ?n_LETTERS ?n_MOST_LETTERS ?n_MOST_NUMBER ?n_MOST_MOMENTS
    (case aC => k_is)
    (case pg => k_is)
    (case hd => k_is)
    (case po => k_is)
    (case sa => k_is)
    (case mk => k_is)
    (case kc => k_is)
    (case x_moments => k_is)
    (case x_held => k_is)
    (case a0 => k_is)
    (case l0 => k_is)
    (case c0 => k_is)
    (case k0 => k_is)
    (case a1 => k_is)
    (case l1 => k_is)
    (case c1 => k_is)
    (case k1 => k_is)
    (case a2 => k_is)
    (case l2 => k_is)
    (case c2 => k_is)
    (case k2 => k_is)
    (case a3 => k_is)
    (case i3 => k_is)
    (case l3 => k_is)
    (case c3 => k_is)
    (case k3 => k_is)
    (case a4 => k_is)
    (case i4 => k_is)
    (case l4 => k_is)
    (case c4 => k_is)
    (case k4 => k_is)
    (case a5 => k_is)
    (case i5 => k_is)
    (case l5 => k_is)
    (case c5 => k_is)
    (case k5 => k_is)
    (case a6 => k_is)
    (case i6 => k_is)
    (case l6 => k_is)
    (case c6 => k_is)
    (case k6 => k_is)
    (case a7 => k_is)
    (case i7 => k_is)
    (case l7 => k_is)
    (case c7 => k_is)
    (case k7 => k_is)
    (case a8 => k_is)
    (case i8 => k_is)
    (case l8 => k_is)
    (case c8 => k_is)
    (case k8 => k_is)
    (case a9 => k_is)
    (case i9 => k_is)
    (case l9 => k_is)
    (case c9 => k_is)
    (case k9 => k_is)
    (case a10 => k_is)
    (case i10 => k_is)
    (case l10 => k_is)
    (case c10 => k_is)
    (case k10 => k_is)
    (case a11 => k_is)
    (case i11 => k_is)
    (case l11 => k_is)
    (case c11 => k_is)
    (case k11 => k_is)
    (case a12 => k_is)
    (case i12 => k_is)
    (case l12 => k_is)
    (case c12 => k_is)
    (case k12 => k_is)
    (case a13 => k_is)
    (case l13 => k_is)
    (case c13 => k_is)
    (case k13 => k_is)
    (case a14 => k_is)
    (case l14 => k_is)
    (case c14 => k_is)
    (case k14 => k_is)
    (case a15 => k_is)
    (case l15 => k_is)
    (case c15 => k_is)
    (case k15 => k_is)
    (case a16 => k_is)
    (case l16 => k_is)
    (case c16 => k_is)
    (case k16 => k_is)
    (case a17 => k_is)
    (case l17 => k_is)
    (case c17 => k_is)
    (case k17 => k_is)
    (case a18 => k_is)
    (case l18 => k_is)
    (case c18 => k_is)
    (case k18 => k_is)
    (case z_len => k_is)
    (case z_str => k_is)
    (case z_int => k_is)
    (case z_bool => k_is)
    (case z_list => k_is)
    (case z_dict => k_is)
    (case z_tuple => k_is)
    (case z_isinstance => k_is)
    (case z_all => k_is)
    (case z_sum => k_is)
    (case z_min => k_is)
    (case z_sorted => k_is)
    (case z_range => k_is)
    (case z_enumerate => k_is)
    (case z_reversed => k_is)
    (case z_set => k_is)
    (case n_LETTERS => k_is)
    (case n_MOST_LETTERS => k_is)
    (case n_MOST_NUMBER => k_is)
    (case n_MOST_MOMENTS => k_is)
#print axioms PySem.Challenge.cw_gapyard_k02_gaps_put_and_taken_holds
