import PyProof.Rows.All
import Wide.All
import OpenK.AllK
import Wide.FinOn
import HandS.ForMost
import HandS.ForExc
import HandS.ExcOwn
import HandS.Evl
import HandS.More
import HandS.DictTup
import HandS.Wide
import HandS.Flow
import HandS.IsInst
import HandS.TupLen
import HandS.Style
import PySem.Challenge.RW_gapyard_k01_names_and_numbers
set_option Elab.async false
set_option linter.all false
set_option maxRecDepth 100000
set_option maxHeartbeats 4000000
/-! DP: Python values as plain data (D), what a value at a heap stands for (Rp), owned objects (Ow), the state of a frame (SR). -/
namespace DP
open PySem L2

/-- plain data -/
inductive D where
  | non | bl (b : Bool) | int (i : Int) | str (x : Str) | ref (a : Addr)
  | tup (xs : List D) | lst (xs : List D) | sl (xs : List D)
  | dK (ks : List Key) (xs : List D) | dT (ks : List (List Key)) (xs : List D)
  | ins (C : Addr) (fs : List Str) (xs : List D)

abbrev Fg := PySem.W.Frag

mutual
/-- v stands for d in the frozen heap F -/
def Rp (K : Fg) (F : Hp) : D → V → Prop
  | .non, v => v = .non
  | .bl b, v => v = .bl b
  | .int i, v => v = .int i
  | .str x, v => v = .str x
  | .ref a, v => v = .ref a
  | .tup xs, v => ∃ a vs, v = .ref a ∧ F a = some (.tup vs) ∧ RpL K F xs vs
  | .lst xs, v => ∃ a vs, v = .ref a ∧ F a = some (.lst vs) ∧ RpL K F xs vs
  | .sl xs, v => ∃ a vs, v = .ref a ∧ SqL K F a vs ∧ RpL K F xs vs
  | .dK ks xs, v => ∃ a ws, v = .ref a ∧ F a = some (.dK ws) ∧ ws.map (·.1) = ks ∧ RpL K F xs (ws.map (·.2))
  | .dT ks xs, v => ∃ a ws, v = .ref a ∧ F a = some (.dT ws) ∧ ws.map (·.1) = ks ∧ RpL K F xs (ws.map (·.2))
  | .ins C fs xs, v => ∃ a dx ws, v = .ref a ∧ F a = some (.ins C dx ws) ∧ ws.map (·.1) = fs ∧ RpL K F xs (ws.map (·.2))
def RpL (K : Fg) (F : Hp) : List D → List V → Prop
  | [], vs => vs = []
  | x :: xs, vs => ∃ v r, vs = v :: r ∧ Rp K F x v ∧ RpL K F xs r
end

/-- heaps that know more -/
def Ex (H H' : Hp) : Prop := ∀ a o, H a = some o → H' a = some o
theorem Ex.rfl' (H : Hp) : Ex H H := fun _ _ h => h
theorem Ex.tr {H H1 H2 : Hp} (a : Ex H H1) (b : Ex H1 H2) : Ex H H2 := fun x o h => b x o (a x o h)
theorem Ex.new' {H : Hp} {p : Addr} {o : HO} (h : H p = none) : Ex H (upd H p o) := fun a u e => by
  rw [upd_ne (ne_of_none e h)]; exact e
theorem Ex.rd {H H' : Hp} {a : Addr} {u : HO} (e : Ex H H') (h : Rd H a u) : Rd H' a u := by
  rcases h with h | ⟨o, h⟩
  · exact .inl (e a _ h)
  · exact .inr ⟨o, e a _ h⟩
theorem Ex.sqL {K : Fg} {H H' : Hp} {a : Addr} {xs : List V} (e : Ex H H') (h : SqL K H a xs) : SqL K H' a xs := by
  rcases h with h | h
  · exact .inl (e.rd h)
  · exact .inr h
theorem Ex.sqT {K : Fg} {H H' : Hp} {a : Addr} {xs : List V} (e : Ex H H') (h : SqT K H a xs) : SqT K H' a xs := by
  rcases h with h | h
  · exact .inl (e.rd h)
  · exact .inr h
theorem Ex.back {H H' : Hp} (e : Ex H H') {p : Addr} (h : H' p = none) : H p = none := by
  cases q : H p with
  | none => rfl
  | some o => rw [e p o q] at h; cases h

section
variable {K : Fg} {F F' : Hp}
mutual
theorem Rp.mono (e : Ex F F') : ∀ (d : D) (v : V), Rp K F d v → Rp K F' d v
  | .non, _, h => h
  | .bl _, _, h => h
  | .int _, _, h => h
  | .str _, _, h => h
  | .ref _, _, h => h
  | .tup xs, _, ⟨a, vs, h1, h2, h3⟩ => ⟨a, vs, h1, e _ _ h2, RpL.mono e xs vs h3⟩
  | .lst xs, _, ⟨a, vs, h1, h2, h3⟩ => ⟨a, vs, h1, e _ _ h2, RpL.mono e xs vs h3⟩
  | .sl xs, _, ⟨a, vs, h1, h2, h3⟩ => ⟨a, vs, h1, e.sqL h2, RpL.mono e xs vs h3⟩
  | .dK ks xs, _, ⟨a, ws, h1, h2, h3, h4⟩ => ⟨a, ws, h1, e _ _ h2, h3, RpL.mono e xs _ h4⟩
  | .dT ks xs, _, ⟨a, ws, h1, h2, h3, h4⟩ => ⟨a, ws, h1, e _ _ h2, h3, RpL.mono e xs _ h4⟩
  | .ins C fs xs, _, ⟨a, dx, ws, h1, h2, h3, h4⟩ => ⟨a, dx, ws, h1, e _ _ h2, h3, RpL.mono e xs _ h4⟩
theorem RpL.mono (e : Ex F F') : ∀ (ds : List D) (vs : List V), RpL K F ds vs → RpL K F' ds vs
  | [], _, h => h
  | x :: xs, _, ⟨v, r, h1, h2, h3⟩ => ⟨v, r, h1, Rp.mono e x v h2, RpL.mono e xs r h3⟩
end
theorem RpL.len : ∀ {ds : List D} {vs : List V}, RpL K F ds vs → ds.length = vs.length
  | [], _, h => by cases (show _ = [] from h); rfl
  | x :: xs, _, ⟨v, r, h1, h2, h3⟩ => by subst h1; simp [RpL.len h3]
theorem RpL.get : ∀ {ds : List D} {vs : List V} {i : Nat} {d : D}, RpL K F ds vs → ds[i]? = some d → ∃ v, vs[i]? = some v ∧ Rp K F d v
  | [], _, i, d, _, e => by simp at e
  | x :: xs, _, 0, d, ⟨v, r, h1, h2, h3⟩, e => by
    subst h1; simp at e; subst e; exact ⟨v, by simp, h2⟩
  | x :: xs, _, i + 1, d, ⟨v, r, h1, h2, h3⟩, e => by
    subst h1
    obtain ⟨u, q1, q2⟩ := RpL.get (i := i) h3 (by simpa using e)
    exact ⟨u, by simpa using q1, q2⟩
theorem RpL.getV : ∀ {ds : List D} {vs : List V} {i : Nat} {v : V}, RpL K F ds vs → vs[i]? = some v → ∃ d, ds[i]? = some d ∧ Rp K F d v
  | [], _, i, v, h, e => by cases (show _ = [] from h); simp at e
  | x :: xs, _, 0, u, ⟨v, r, h1, h2, h3⟩, e => by
    subst h1; simp at e; subst e; exact ⟨x, by simp, h2⟩
  | x :: xs, _, i + 1, u, ⟨v, r, h1, h2, h3⟩, e => by
    subst h1
    obtain ⟨d, q1, q2⟩ := RpL.getV (i := i) h3 (by simpa using e)
    exact ⟨d, by simpa using q1, q2⟩
theorem RpL.append : ∀ {ds es : List D} {vs ws : List V}, RpL K F ds vs → RpL K F es ws → RpL K F (ds ++ es) (vs ++ ws)
  | [], _, _, _, h, k => by cases (show _ = [] from h); exact k
  | x :: xs, _, _, _, ⟨v, r, h1, h2, h3⟩, k => by subst h1; exact ⟨v, _, rfl, h2, RpL.append h3 k⟩
theorem RpL.take : ∀ (n : Nat) {ds : List D} {vs : List V}, RpL K F ds vs → RpL K F (ds.take n) (vs.take n)
  | 0, _, _, _ => by simp [RpL]
  | n + 1, [], _, h => by cases (show _ = [] from h); simp [RpL]
  | n + 1, x :: xs, _, ⟨v, r, h1, h2, h3⟩ => by subst h1; exact ⟨v, _, rfl, h2, RpL.take n h3⟩
theorem RpL.drop : ∀ (n : Nat) {ds : List D} {vs : List V}, RpL K F ds vs → RpL K F (ds.drop n) (vs.drop n)
  | 0, _, _, h => h
  | n + 1, [], _, h => by cases (show _ = [] from h); simp [RpL]
  | n + 1, x :: xs, _, ⟨v, r, h1, h2, h3⟩ => by subst h1; exact RpL.drop n h3
theorem RpL.set : ∀ (n : Nat) {ds : List D} {vs : List V} {d : D} {v : V}, RpL K F ds vs → Rp K F d v → RpL K F (ds.set n d) (vs.set n v)
  | _, [], _, _, _, h, _ => by cases (show _ = [] from h); simp [RpL]
  | 0, x :: xs, _, _, _, ⟨v, r, h1, h2, h3⟩, k => by subst h1; exact ⟨_, _, rfl, k, h3⟩
  | n + 1, x :: xs, _, _, _, ⟨v, r, h1, h2, h3⟩, k => by subst h1; exact ⟨_, _, rfl, h2, RpL.set n h3 k⟩
theorem RpL.rev {ds : List D} {vs : List V} (h : RpL K F ds vs) : RpL K F ds.reverse vs.reverse := by
  induction ds generalizing vs with
  | nil => cases (show vs = [] from h); simp [RpL]
  | cons x xs ih =>
    obtain ⟨v, r, h1, h2, h3⟩ := h
    subst h1
    rw [List.reverse_cons, List.reverse_cons]
    exact (ih h3).append ⟨v, [], rfl, h2, rfl⟩
theorem RpL.rep {d : D} {v : V} (h : Rp K F d v) : ∀ n, RpL K F (List.replicate n d) (List.replicate n v)
  | 0 => by simp [RpL]
  | n + 1 => ⟨v, _, rfl, h, RpL.rep h n⟩
end

/-! ### owned objects -/
def OwL (R : D → V → List Addr → Prop) : List D → List V → List Addr → Prop
  | [], vs, r => vs = [] ∧ r = []
  | d :: ds, vs, r => ∃ v vr r1 r2, vs = v :: vr ∧ r = r1 ++ r2 ∧ R d v r1 ∧ OwL R ds vr r2
def OwO (R : D → V → List Addr → Prop) : D → HO → List Addr → Prop
  | .lst ds, .lst vs, r => OwL R ds vs r
  | .dK ks ds, .dK ws, r => ws.map (·.1) = ks ∧ OwL R ds (ws.map (·.2)) r
  | .dT ks ds, .dT ws, r => ws.map (·.1) = ks ∧ OwL R ds (ws.map (·.2)) r
  | .ins C fs ds, .ins C' _ ws, r => C' = C ∧ ws.map (·.1) = fs ∧ OwL R ds (ws.map (·.2)) r
  | _, _, _ => False
/-- v stands for d, its first n layers owned, at the addresses fp -/
def Ow (K : Fg) (F H : Hp) : Nat → D → V → List Addr → Prop
  | 0, d, v, fp => fp = [] ∧ Rp K F d v
  | n + 1, d, v, fp => ∃ a o r, v = .ref a ∧ F a = none ∧ H a = some o ∧ fp = a :: r ∧ OwO (Ow K F H n) d o r

/-- the frozen heap and the heap go on: all that was tracked stands, what is frozen anew is new -/
structure Gr (F H F' H' : Hp) : Prop where
  ff : Ex F F'
  hh : Ex H H'
  fh : Ex F' H'
  nw : ∀ a o, H a = some o → F' a = F a
theorem Gr.refl {F H : Hp} (e : Ex F H) : Gr F H F H := ⟨Ex.rfl' _, Ex.rfl' _, e, fun _ _ _ => rfl⟩
theorem Gr.trans {F H F1 H1 F2 H2 : Hp} (a : Gr F H F1 H1) (b : Gr F1 H1 F2 H2) : Gr F H F2 H2 :=
  ⟨a.ff.tr b.ff, a.hh.tr b.hh, b.fh, fun x o h => (b.nw x o (a.hh x o h)).trans (a.nw x o h)⟩
/-- a new object is laid, not frozen -/
theorem Gr.own {F H : Hp} {p : Addr} {o : HO} (e : Ex F H) (h : H p = none) : Gr F H F (upd H p o) :=
  ⟨Ex.rfl' _, Ex.new' h, e.tr (Ex.new' h), fun _ _ _ => rfl⟩
/-- a new object is laid and frozen -/
theorem Gr.frz {F H : Hp} {p : Addr} {o : HO} (e : Ex F H) (h : H p = none) : Gr F H (upd F p o) (upd H p o) where
  ff := Ex.new' (e.back h)
  hh := Ex.new' h
  fh := fun a u q => by
    by_cases z : a = p
    · subst z; rw [upd_same] at q ⊢; exact q
    · rw [upd_ne z] at q ⊢; exact e a u q
  nw := fun a u q => by rw [upd_ne (ne_of_none q h)]

section
variable {K : Fg} {F F' H H' : Hp}
theorem OwL.imp {R R' : D → V → List Addr → Prop} : ∀ {ds : List D} {vs : List V} {r : List Addr}, (∀ d v r, R d v r → R' d v r) → OwL R ds vs r → OwL R' ds vs r
  | [], _, _, _, h => h
  | d :: ds, _, _, f, ⟨v, vr, r1, r2, h1, h2, h3, h4⟩ => ⟨v, vr, r1, r2, h1, h2, f _ _ _ h3, OwL.imp f h4⟩
theorem OwO.imp {R R' : D → V → List Addr → Prop} {d : D} {o : HO} {r : List Addr} (f : ∀ d v r, R d v r → R' d v r) (h : OwO R d o r) : OwO R' d o r := by
  cases d <;> cases o <;> first
    | exact h.elim
    | exact OwL.imp f h
    | exact ⟨h.1, OwL.imp f h.2⟩
    | exact ⟨h.1, h.2.1, OwL.imp f h.2.2⟩
theorem OwL.len {R : D → V → List Addr → Prop} : ∀ {ds : List D} {vs : List V} {r : List Addr}, OwL R ds vs r → ds.length = vs.length
  | [], _, _, h => by rw [h.1]; rfl
  | d :: ds, _, _, ⟨v, vr, r1, r2, h1, h2, h3, h4⟩ => by subst h1; simp [OwL.len h4]
theorem Ow.mono (g : Gr F H F' H') : ∀ {n : Nat} {d : D} {v : V} {fp : List Addr}, Ow K F H n d v fp → Ow K F' H' n d v fp
  | 0, _, _, _, h => ⟨h.1, Rp.mono g.ff _ _ h.2⟩
  | n + 1, _, _, _, ⟨a, o, r, h1, h2, h3, h4, h5⟩ => ⟨a, o, r, h1, (g.nw a o h3).trans h2, g.hh a o h3, h4, OwO.imp (fun _ _ _ z => Ow.mono g z) h5⟩
/-- every address of fp is owned -/
theorem OwL.fp {R : D → V → List Addr → Prop} {P : Addr → Prop} (f : ∀ d v r, R d v r → ∀ a ∈ r, P a) : ∀ {ds : List D} {vs : List V} {r : List Addr}, OwL R ds vs r → ∀ a ∈ r, P a
  | [], _, _, h, a, m => by rw [h.2] at m; cases m
  | d :: ds, _, _, ⟨v, vr, r1, r2, h1, h2, h3, h4⟩, a, m => by
    subst h2
    rcases List.mem_append.mp m with m | m
    · exact f _ _ _ h3 a m
    · exact OwL.fp f h4 a m
theorem OwO.fp {R : D → V → List Addr → Prop} {P : Addr → Prop} {d : D} {o : HO} {r : List Addr} (f : ∀ d v r, R d v r → ∀ a ∈ r, P a) (h : OwO R d o r) : ∀ a ∈ r, P a := by
  cases d <;> cases o <;> first
    | exact h.elim
    | exact OwL.fp f h
    | exact OwL.fp f h.2
    | exact OwL.fp f h.2.2
theorem Ow.fp : ∀ {n : Nat} {d : D} {v : V} {fp : List Addr}, Ow K F H n d v fp → ∀ a ∈ fp, F a = none ∧ ∃ o, H a = some o
  | 0, _, _, _, h, a, m => by rw [h.1] at m; cases m
  | n + 1, _, _, _, ⟨b, o, r, h1, h2, h3, h4, h5⟩, a, m => by
    subst h4
    rcases List.mem_cons.mp m with m | m
    · subst m; exact ⟨h2, o, h3⟩
    · exact OwO.fp (fun _ _ _ z => Ow.fp z) h5 a m
/-- one layer owned: the items are frozen -/
theorem OwL.one : ∀ {ds : List D} {vs : List V} {r : List Addr}, OwL (Ow K F H 0) ds vs r → r = [] ∧ RpL K F ds vs
  | [], _, _, h => ⟨h.2, h.1⟩
  | d :: ds, _, _, ⟨v, vr, r1, r2, h1, h2, h3, h4⟩ => by
    obtain ⟨e1, q1⟩ := h3
    obtain ⟨e2, q2⟩ := OwL.one h4
    subst e1 e2 h1
    exact ⟨h2, v, vr, rfl, q1, q2⟩
theorem OwL.of : ∀ {ds : List D} {vs : List V}, RpL K F ds vs → OwL (Ow K F H 0) ds vs []
  | [], _, h => ⟨h, rfl⟩
  | d :: ds, _, ⟨v, r, h1, h2, h3⟩ => ⟨v, r, [], [], h1, rfl, ⟨rfl, h2⟩, OwL.of h3⟩
theorem Ow.z {d : D} {v : V} (h : Rp K F d v) : Ow K F H 0 d v [] := ⟨rfl, h⟩
theorem Ow.lst1 {ds : List D} {vs : List V} {a : Addr} (h : RpL K F ds vs) (hf : F a = none) (hh : H a = some (.lst vs)) : Ow K F H 1 (.lst ds) (.ref a) [a] :=
  ⟨a, _, [], rfl, hf, hh, rfl, OwL.of h⟩

/-! ### freezing -/
/-- F with the heap's objects at fp -/
def frz (F H : Hp) (fp : List Addr) : Hp := fun a => if a ∈ fp then H a else F a
theorem frz_in {fp : List Addr} {a : Addr} (h : a ∈ fp) : frz F H fp a = H a := if_pos h
theorem frz_out {fp : List Addr} {a : Addr} (h : a ∉ fp) : frz F H fp a = F a := if_neg h
theorem frz_ex {fp : List Addr} (h : ∀ a ∈ fp, F a = none) : Ex F (frz F H fp) := fun a o e => by
  rw [frz_out fun m => by rw [h a m] at e; cases e]; exact e
theorem frz_fh {fp : List Addr} (h : Ex F H) : Ex (frz F H fp) H := fun a o e => by
  by_cases m : a ∈ fp
  · rw [frz_in m] at e; exact e
  · rw [frz_out m] at e; exact h a o e
mutual
theorem Ow.frozen {G : Hp} (e : Ex F G) : ∀ {n : Nat} {d : D} {v : V} {fp : List Addr}, (∀ a ∈ fp, G a = H a) → Ow K F H n d v fp → Rp K G d v
  | 0, d, v, _, _, h => Rp.mono e d v h.2
  | n + 1, d, v, _, q, ⟨a, o, r, h1, h2, h3, h4, h5⟩ => by
    subst h4
    have ga : G a = some o := (q a List.mem_cons_self).trans h3
    have q' : ∀ b ∈ r, G b = H b := fun b m => q b (List.mem_cons_of_mem _ m)
    cases d <;> cases o <;> first
      | exact h5.elim
      | exact ⟨a, _, h1, ga, OwL.frozen e q' h5⟩
      | exact ⟨a, _, h1, ga, h5.1, OwL.frozen e q' h5.2⟩
      | (obtain ⟨e1, e2, h5⟩ := h5; subst e1; exact ⟨a, _, _, h1, ga, e2, OwL.frozen e q' h5⟩)
theorem OwL.frozen {G : Hp} (e : Ex F G) : ∀ {n : Nat} {ds : List D} {vs : List V} {r : List Addr}, (∀ a ∈ r, G a = H a) → OwL (Ow K F H n) ds vs r → RpL K G ds vs
  | n, [], vs, r, _, h => h.1
  | n, d :: ds, _, _, q, ⟨v, vr, r1, r2, h1, h2, h3, h4⟩ => by
    subst h2
    exact ⟨v, vr, h1, Ow.frozen e (fun a m => q a (List.mem_append_left _ m)) h3, OwL.frozen e (fun a m => q a (List.mem_append_right _ m)) h4⟩
end
end
end DP
/-! DP: the frame's state, readings by functions of the state. -/
namespace DP
open PySem L2

/-- an exception as data: its class, one field -/
abbrev Sv := Nat × D
structure XD where
  cls : Addr
  fld : Option (Str × Sv)
abbrev Env := List (Option Sv)
abbrev M (α : Type) := Option (Except XD α)
@[reducible] def M.ok {α : Type} (a : α) : M α := some (.ok a)
@[reducible] def M.er {α : Type} (e : XD) : M α := some (.error e)
@[reducible] def M.no {α : Type} : M α := none
def bd {α β : Type} (x : M α) (f : α → M β) : M β := match x with
  | none => none
  | some (.error e) => some (.error e)
  | some (.ok a) => f a
theorem bd_ok {α β : Type} (a : α) (f : α → M β) : bd (M.ok a) f = f a := rfl
theorem bd_er {α β : Type} (e : XD) (f : α → M β) : bd (M.er e) f = M.er e := rfl
theorem bd_no {α β : Type} (f : α → M β) : bd (none : M α) f = none := rfl
def lf {α : Type} (x : Option α) : M α := x.map .ok
theorem lf_ok {α : Type} {x : Option α} {r : Except XD α} (h : lf x = some r) : ∃ a, x = some a ∧ r = .ok a := by
  cases x with
  | none => cases h
  | some a => exact ⟨a, rfl, (Option.some.inj h).symm⟩

structure SR (K : Fg) (F0 H0 F H : Hp) (σ : St) (env : Env) : Prop where
  g : Gr F0 H0 F H
  len : env.length = σ.length
  ex : ∃ fp : Nat → List Addr, (∀ i n d, env[i]? = some (some (n, d)) → ∃ v, σ[i]? = some (some v) ∧ Ow K F H n d v (fp i)) ∧
    (∀ i, (fp i).Nodup) ∧ (∀ i j a, a ∈ fp i → a ∈ fp j → i = j) ∧ ∀ i a, a ∈ fp i → H0 a = none

section
variable {K : Fg} {F0 H0 F H F' H' : Hp} {σ : St} {env : Env}
theorem SR.fh (s : SR K F0 H0 F H σ env) : Ex F H := s.g.fh
theorem SR.on (s : SR K F0 H0 F H σ env) (g : Gr F H F' H') : SR K F0 H0 F' H' σ env := by
  obtain ⟨fp, h1, h2, h3, h4⟩ := s.ex
  exact ⟨s.g.trans g, s.len, fp, fun i n d e => let ⟨v, q1, q2⟩ := h1 i n d e; ⟨v, q1, q2.mono g⟩, h2, h3, h4⟩
/-- a slot is stored -/
theorem SR.set (s : SR K F0 H0 F H σ env) {i : Nat} {n : Nat} {d : D} {v : V} {F' H' : Hp} {fp : List Addr} (g : Gr F H F' H') (o : Ow K F' H' n d v fp) (nd : fp.Nodup) (nw : ∀ a ∈ fp, H a = none) : SR K F0 H0 F' H' (σ.set i (some v)) (env.set i (some (n, d))) := by
  obtain ⟨fq, h1, h2, h3, h4⟩ := (s.on g).ex
  obtain ⟨fq0, k1, _, _, _⟩ := s.ex
  -- the old footprints, none of them for slots without a value
  have old : ∃ fr : Nat → List Addr, (∀ j n d, env[j]? = some (some (n, d)) → ∃ v, σ[j]? = some (some v) ∧ Ow K F H n d v (fr j)) ∧ (∀ j, (fr j).Nodup) ∧ (∀ j k a, a ∈ fr j → a ∈ fr k → j = k) ∧ (∀ j a, a ∈ fr j → H0 a = none) ∧ ∀ j a, a ∈ fr j → H a ≠ none := by
    obtain ⟨fr, q1, q2, q3, q4⟩ := s.ex
    refine ⟨fun j => match env[j]? with | some (some _) => fr j | _ => [], ?_, ?_, ?_, ?_, ?_⟩
    · intro j n d e
      dsimp only
      rw [e]; exact q1 j n d e
    · intro j
      show List.Nodup (match env[j]? with | some (some _) => fr j | _ => [])
      split
      · exact q2 j
      · exact List.nodup_nil
    · intro j k a ha hb
      have ha' : a ∈ fr j := by
        revert ha
        show a ∈ (match env[j]? with | some (some _) => fr j | _ => []) → _
        split
        · exact id
        · intro z; cases z
      have hb' : a ∈ fr k := by
        revert hb
        show a ∈ (match env[k]? with | some (some _) => fr k | _ => []) → _
        split
        · exact id
        · intro z; cases z
      exact q3 j k a ha' hb'
    · intro j a ha
      have ha' : a ∈ fr j := by
        revert ha
        show a ∈ (match env[j]? with | some (some _) => fr j | _ => []) → _
        split
        · exact id
        · intro z; cases z
      exact q4 j a ha'
    · intro j a ha
      revert ha
      show a ∈ (match env[j]? with | some (some _) => fr j | _ => []) → _
      split
      · rename_i x e
        obtain ⟨m, d'⟩ := x
        intro ha
        obtain ⟨v', _, ow⟩ := q1 j m d' e
        obtain ⟨_, o', ho⟩ := ow.fp a ha
        rw [ho]; exact fun z => by cases z
      · intro z; cases z
  obtain ⟨fr, q1, q2, q3, q4, q5⟩ := old
  refine ⟨s.g.trans g, by simpa using s.len, fun j => if j = i then fp else fr j, ?_, ?_, ?_, ?_⟩
  · intro j m d' e
    dsimp only
    by_cases hj : j = i
    · subst hj
      rw [if_pos rfl]
      by_cases hl : j < env.length
      · rw [List.getElem?_set_self hl] at e
        cases e
        exact ⟨v, by rw [List.getElem?_set_self (by rw [← s.len]; exact hl)], o⟩
      · rw [List.getElem?_eq_none (by simpa using hl)] at e; cases e
    · rw [if_neg hj]
      rw [List.getElem?_set_ne (Ne.symm hj)] at e
      obtain ⟨u, e1, e2⟩ := q1 j m d' e
      exact ⟨u, by rw [List.getElem?_set_ne (Ne.symm hj)]; exact e1, e2.mono g⟩
  · intro j
    by_cases hj : j = i
    · simp only [hj, if_pos]; exact nd
    · simp only [if_neg hj]; exact q2 j
  · intro j k a ha hb
    by_cases hj : j = i
    · by_cases hk : k = i
      · rw [hj, hk]
      · simp only [hj, if_pos] at ha
        simp only [if_neg hk] at hb
        exact absurd (nw a ha) (q5 k a hb)
    · by_cases hk : k = i
      · simp only [if_neg hj] at ha
        simp only [hk, if_pos] at hb
        exact absurd (nw a hb) (q5 j a ha)
      · simp only [if_neg hj] at ha
        simp only [if_neg hk] at hb
        exact q3 j k a ha hb
  · intro j a ha
    by_cases hj : j = i
    · simp only [hj, if_pos] at ha
      exact s.g.hh.back (nw a ha)
    · simp only [if_neg hj] at ha
      exact q4 j a ha
/-- fewer slots are known -/
theorem SR.less (s : SR K F0 H0 F H σ env) {env' : Env} (hl : env'.length = env.length) (h : ∀ (i : Nat) (x : Sv), env'[i]? = some (some x) → env[i]? = some (some x)) : SR K F0 H0 F H σ env' := by
  obtain ⟨fp, h1, h2, h3, h4⟩ := s.ex
  exact ⟨s.g, hl.trans s.len, fp, fun i n d e => h1 i n d (h i _ e), h2, h3, h4⟩
end

/-- how an exception stands for data -/
def ExR (K : Fg) (H0 F H : Hp) (cls : Value) (dd : Option Addr) (e : XD) : Prop :=
  cls = .ref e.cls ∧ match e.fld with
    | none => True
    | some (f, x) => ∃ p v fp, dd = some p ∧ H0 p = none ∧ H p = some (.xd [(f, v)]) ∧ Ow K F H x.1 x.2 v fp ∧ fp.Nodup ∧ ∀ a ∈ fp, H0 a = none
theorem ExR.on {K : Fg} {H0 H1 F H : Hp} {cls : Value} {dd : Option Addr} {e : XD} (h : ExR K H1 F H cls dd e) (x : Ex H0 H1) : ExR K H0 F H cls dd e := by
  obtain ⟨c, f⟩ := e
  refine ⟨h.1, ?_⟩
  cases f with
  | none => trivial
  | some q =>
    obtain ⟨p, v, fp, h1, h2, h3, h4, h5, h6⟩ := h.2
    exact ⟨p, v, fp, h1, x.back h2, h3, h4, h5, fun a m => x.back (h6 a m)⟩

def EvOk (K : Fg) (F H : Hp) (Q : VK) (x : Sv) : Prop := ∀ v F' H' fp, Gr F H F' H' → Ow K F' H' x.1 x.2 v fp → fp.Nodup → (∀ a ∈ fp, H a = none) → Q v H'
def EvWk (K : Fg) (F H : Hp) (Q : VK) (x : Sv) : Prop := ∀ v F' H' fp, Gr F H F' H' → Ow K F' H' x.1 x.2 v fp → Q v H'
def ExOk (K : Fg) (F H : Hp) (W : WX) (σ : St) (e : XD) : Prop := ∀ cls dd F' H', Gr F H F' H' → ExR K H F' H' cls dd e → W cls dd σ H'

/-- an expression's value by a function of the state -/
def tD (K : Fg) (W : WX) (f : Env → M Sv) : TE := fun σ H Q => ∃ F0 H0 F env, SR K F0 H0 F H σ env ∧ ((∃ x, f env = M.ok x ∧ EvOk K F H Q x) ∨ ∃ e, f env = M.er e ∧ ExOk K F H W σ e)
def tW (K : Fg) (W : WX) (f : Env → M Sv) : TE := fun σ H Q => ∃ F0 H0 F env, SR K F0 H0 F H σ env ∧ ((∃ x, f env = M.ok x ∧ EvWk K F H Q x) ∨ ∃ e, f env = M.er e ∧ ExOk K F H W σ e)
/-- a test -/
def tB' (K : Fg) (W : WX) (f : Env → M Bool) : TT := fun σ H Q => ∃ F0 H0 F env, SR K F0 H0 F H σ env ∧ ((∃ b, f env = M.ok b ∧ ∀ F' H', Gr F H F' H' → Q b H') ∨ ∃ e, f env = M.er e ∧ ExOk K F H W σ e)
/-- arguments: each frozen or owned anew -/
def Al (K : Fg) (F H : Hp) : List Sv → List V → List Addr → Prop
  | [], vs, fp => vs = [] ∧ fp = []
  | x :: xs, vs, fp => ∃ v r f1 f2, vs = v :: r ∧ fp = f1 ++ f2 ∧ Ow K F H x.1 x.2 v f1 ∧ Al K F H xs r f2
def tA (K : Fg) (W : WX) (f : Env → M (List Sv)) : TA := fun σ H Q => ∃ F0 H0 F env, SR K F0 H0 F H σ env ∧ ((∃ xs, f env = M.ok xs ∧ ∀ vs F' H' fp, Gr F H F' H' → Al K F' H' xs vs fp → fp.Nodup → (∀ a ∈ fp, H a = none) → Q vs H') ∨ ∃ e, f env = M.er e ∧ ExOk K F H W σ e)
/-- arguments of any kind -/
def tAw (K : Fg) (W : WX) (f : Env → M (List Sv)) : TA := fun σ H Q => ∃ F0 H0 F env, SR K F0 H0 F H σ env ∧ ((∃ xs, f env = M.ok xs ∧ ∀ vs F' H' fp, Gr F H F' H' → Al K F' H' xs vs fp → Q vs H') ∨ ∃ e, f env = M.er e ∧ ExOk K F H W σ e)

theorem PE.imp {X : Cx} {e : Expr} {t t' : TE} (h : PE X e t) (k : ∀ σ H Q, t' σ H Q → t σ H Q) : PE X e t' := ⟨fun pins s σ H Q I q => h.run pins s σ H Q I (k σ H Q q)⟩
theorem PT.imp {X : Cx} {e : Expr} {t t' : TT} (h : PT X e t) (k : ∀ σ H Q, t' σ H Q → t σ H Q) : PT X e t' := ⟨fun pins s σ H Q I q => h.run pins s σ H Q I (k σ H Q q)⟩
theorem PW.imp {X : Cx} {e : Expr} {t t' : TT} (h : PW X e t) (k : ∀ σ H Q, t' σ H Q → t σ H Q) : PW X e t' := ⟨fun wh pins s σ H Q I q => h.run wh pins s σ H Q I (k σ H Q q)⟩
theorem PA.imp {X : Cx} {es : List Expr} {t t' : TA} (h : PA X es t) (k : ∀ σ H Q, t' σ H Q → t σ H Q) : PA X es t' := ⟨fun pos pins s σ H Q I q => h.run pos pins s σ H Q I (k σ H Q q)⟩
theorem PS.imp {X : Cx} {e : Stmt} {t t' : TS} (h : PS X e t) (k : ∀ D σ H, t' D σ H → t D σ H) : PS X e t' := ⟨fun pins s σ H D I q => h.run pins s σ H D I (k D σ H q)⟩
theorem PSs.imp {X : Cx} {e : List Stmt} {t t' : TS} (h : PSs X e t) (k : ∀ D σ H, t' D σ H → t D σ H) : PSs X e t' := ⟨fun pins s σ H D I q => h.run pins s σ H D I (k D σ H q)⟩
theorem PI.imp {X : Cx} {tg e : Expr} {t t' : TI} (h : PI X tg e t) (k : ∀ σ H R, t' σ H R → t σ H R) : PI X tg e t' := ⟨fun pins s σ H R I q => h.run pins s σ H R I (k σ H R q)⟩

section
variable {X : Cx} {K : Fg} {W : WX} {e a b c : Expr} {f g h : Env → M Sv} {F0 H0 F H : Hp} {σ : St} {env : Env} {Q : VK}
/-- reading on from a state -/
theorem tD.go (s : SR K F0 H0 F H σ env) {x : Sv} (e : f env = M.ok x) (k : EvOk K F H Q x) : tD K W f σ H Q := ⟨F0, H0, F, env, s, .inl ⟨x, e, k⟩⟩
theorem tW.go (s : SR K F0 H0 F H σ env) {x : Sv} (e : f env = M.ok x) (k : EvWk K F H Q x) : tW K W f σ H Q := ⟨F0, H0, F, env, s, .inl ⟨x, e, k⟩⟩
theorem tD.ex (s : SR K F0 H0 F H σ env) {x : XD} (e : f env = M.er x) (k : ExOk K F H W σ x) : tD K W f σ H Q := ⟨F0, H0, F, env, s, .inr ⟨x, e, k⟩⟩
theorem tW.ex (s : SR K F0 H0 F H σ env) {x : XD} (e : f env = M.er x) (k : ExOk K F H W σ x) : tW K W f σ H Q := ⟨F0, H0, F, env, s, .inr ⟨x, e, k⟩⟩
theorem ExOk.on {F' H' : Hp} {x : XD} (k : ExOk K F H W σ x) (g : Gr F H F' H') : ExOk K F' H' W σ x := fun cls dd F2 H2 g2 r => k cls dd F2 H2 (g.trans g2) (r.on g.hh)
theorem EvWk.ok {x : Sv} (k : EvWk K F H Q x) : EvOk K F H Q x := fun v F' H' fp g o _ _ => k v F' H' fp g o
theorem EvOk.on {F' H' : Hp} {x : Sv} (k : EvOk K F H Q x) (g : Gr F H F' H') : EvOk K F' H' Q x := fun v F2 H2 fp g2 o nd nw => k v F2 H2 fp (g.trans g2) o nd fun a m => g.hh.back (nw a m)
theorem EvWk.on {F' H' : Hp} {x : Sv} (k : EvWk K F H Q x) (g : Gr F H F' H') : EvWk K F' H' Q x := fun v F2 H2 fp g2 o => k v F2 H2 fp (g.trans g2) o
/-- a value that is frozen -/
theorem EvOk.z {d : D} {v : V} {F' H' : Hp} (k : EvOk K F H Q (0, d)) (g : Gr F H F' H') (r : Rp K F' d v) : Q v H' := k v F' H' [] g ⟨rfl, r⟩ List.nodup_nil fun _ m => by cases m

/-- what stands first in a bind -/
theorem bd_cases {α β : Type} {x : M α} {k : α → M β} {r : Except XD β} (h : bd x k = some r) : (∃ a, x = M.ok a ∧ k a = some r) ∨ ∃ e, x = M.er e ∧ r = .error e := by
  cases x with
  | none => cases h
  | some y =>
    cases y with
    | error e => exact .inr ⟨e, rfl, (Option.some.inj h).symm⟩
    | ok a => exact .inl ⟨a, rfl, h⟩
/-- an outcome, good or an exception -/
def Out {α : Type} (m : M α) (A : α → Prop) (B : XD → Prop) : Prop := (∃ x, m = M.ok x ∧ A x) ∨ ∃ e, m = M.er e ∧ B e
theorem Out.bd {α β : Type} {x : M α} {k : α → M β} {A : β → Prop} {B : XD → Prop} (h : Out (bd x k) A B) : Out x (fun a => Out (k a) A B) B := by
  rcases h with ⟨y, e, q⟩ | ⟨y, e, q⟩
  · rcases bd_cases e with ⟨a, e1, e2⟩ | ⟨z, _, e2⟩
    · exact .inl ⟨a, e1, .inl ⟨y, e2, q⟩⟩
    · cases e2
  · rcases bd_cases e with ⟨a, e1, e2⟩ | ⟨z, e1, e2⟩
    · exact .inl ⟨a, e1, .inr ⟨y, e2, q⟩⟩
    · cases e2; exact .inr ⟨y, e1, q⟩
theorem Out.imp {α : Type} {m : M α} {A A' : α → Prop} {B B' : XD → Prop} (h : Out m A B) (k1 : ∀ x, A x → A' x) (k2 : ∀ e, B e → B' e) : Out m A' B' := by
  rcases h with ⟨y, e, q⟩ | ⟨y, e, q⟩
  · exact .inl ⟨y, e, k1 _ q⟩
  · exact .inr ⟨y, e, k2 _ q⟩
theorem Out.ok {α : Type} {m : M α} {a : α} {A : α → Prop} {B : XD → Prop} (h : Out m A B) (e : m = M.ok a) : A a := by
  rcases h with ⟨y, e', q⟩ | ⟨y, e', q⟩
  · rw [e] at e'
    have z : a = y := Except.ok.inj (Option.some.inj e')
    rw [z]; exact q
  · rw [e] at e'; cases (Option.some.inj e')
theorem tD.out (s : SR K F0 H0 F H σ env) (o : Out (f env) (EvOk K F H Q) (ExOk K F H W σ)) : tD K W f σ H Q := ⟨F0, H0, F, env, s, o⟩
theorem tW.out (s : SR K F0 H0 F H σ env) (o : Out (f env) (EvWk K F H Q) (ExOk K F H W σ)) : tW K W f σ H Q := ⟨F0, H0, F, env, s, o⟩
theorem tB'.out {f : Env → M Bool} {Q : Bool → Hp → Prop} (s : SR K F0 H0 F H σ env) (o : Out (f env) (fun b => ∀ F' H', Gr F H F' H' → Q b H') (ExOk K F H W σ)) : tB' K W f σ H Q := ⟨F0, H0, F, env, s, o⟩

theorem pd_w (p : PE X e (tD K W f)) : PE X e (tW K W f) := PE.imp p fun σ H Q ⟨F0, H0, F, env, s, o⟩ => tD.out s (Out.imp o (fun _ k => EvWk.ok k) fun _ k => k)

/-! ### names, constants -/
def vl (v : Option (Option Sv)) : M Sv := match v with
  | some (some x) => M.ok x
  | _ => none
theorem vl_ok {v : Option (Option Sv)} {x : Sv} (h : vl v = M.ok x) : v = some (some x) := by
  rcases v with _ | _ | y
  · cases (show (none : M Sv) = M.ok x from h)
  · cases (show (none : M Sv) = M.ok x from h)
  · rw [Except.ok.inj (Option.some.inj (show M.ok y = M.ok x from h))]
theorem vl_er {v : Option (Option Sv)} {x : XD} (h : vl v = M.er x) : False := by
  rcases v with _ | _ | y
  · cases (show (none : M Sv) = M.er x from h)
  · cases (show (none : M Sv) = M.er x from h)
  · cases (Option.some.inj (show M.ok y = M.er x from h))
/-- a name that is frozen; of any kind -/
def fVar (i : Nat) (env : Env) : M Sv := bd (vl (env[i]?)) fun x => if x.1 = 0 then M.ok x else none
def fVarW (i : Nat) (env : Env) : M Sv := vl (env[i]?)
theorem pd_varW {i : Nat} {x : Str} {pos : Pos} (p : PE X (.Name x pos) (tVar i)) : PE X (.Name x pos) (tW K W (fVarW i)) := PE.imp p fun σ H Q ⟨F0, H0, F, env, s, o⟩ => by
  rcases o with ⟨y, e, k⟩ | ⟨y, e, k⟩
  · obtain ⟨fp, h1, _⟩ := s.ex
    obtain ⟨n, d⟩ := y
    obtain ⟨v, q1, q2⟩ := h1 i n d (vl_ok e)
    exact ⟨v, q1, k v F H _ (Gr.refl s.fh) q2⟩
  · exact (vl_er e).elim
theorem pd_var {i : Nat} {x : Str} {pos : Pos} (p : PE X (.Name x pos) (tVar i)) : PE X (.Name x pos) (tD K W (fVar i)) := PE.imp p fun σ H Q ⟨F0, H0, F, env, s, o⟩ => by
  have o : Out (fVar i env) (EvOk K F H Q) (ExOk K F H W σ) := o
  unfold fVar at o
  rcases o.bd with ⟨y, e, o2⟩ | ⟨y, e, _⟩
  · obtain ⟨n, d⟩ := y
    obtain ⟨fp, h1, _⟩ := s.ex
    obtain ⟨v, q1, q2⟩ := h1 i n d (vl_ok e)
    by_cases hn : n = 0
    · subst hn
      have k := o2.ok (a := (0, d)) (by simp)
      exact ⟨v, q1, k v F H _ (Gr.refl s.fh) q2 (by rw [q2.1]; exact List.nodup_nil) (by rw [q2.1]; intro _ m; cases m)⟩
    · have z : (if (n, d).1 = 0 then M.ok (n, d) else none : M Sv) = none := if_neg hn
      rw [z] at o2
      rcases o2 with ⟨_, q, _⟩ | ⟨_, q, _⟩ <;> cases q
  · exact (vl_er e).elim
/-- a constant, by its plain rule -/
theorem pd_c {v : V} {d : D} (p : PE X e (tC v)) (r : ∀ F, Rp K F d v) : PE X e (tD K W fun _ => M.ok (0, d)) := PE.imp p fun σ H Q ⟨F0, H0, F, env, s, o⟩ => (Out.ok o rfl).z (Gr.refl s.fh) (r F)
theorem pd_int {i j pos} : PE X (.Constant (.int i) j pos) (tD K W fun _ => M.ok (0, .int i)) := pd_c pe_int fun _ => rfl
theorem pd_bl {b j pos} : PE X (.Constant (.bool b) j pos) (tD K W fun _ => M.ok (0, .bl b)) := pd_c pe_bl fun _ => rfl
theorem pd_non {j pos} : PE X (.Constant .none j pos) (tD K W fun _ => M.ok (0, .non)) := pd_c pe_non fun _ => rfl
theorem pd_str {x j pos} : PE X (.Constant (.str x) j pos) (tD K W fun _ => M.ok (0, .str x)) := pd_c pe_str fun _ => rfl

/-! ### two operands -/
/-- what an operation does to values that stand for data -/
def VR2 (K : Fg) (r : R2) (op : Sv → Sv → Option Sv) : Prop := ∀ (F H : Hp) (x y : V) (p q : Sv) (fp fq : List Addr) (z : Sv) (Q : VK), Ex F H → Ow K F H p.1 p.2 x fp → Ow K F H q.1 q.2 y fq → op p q = some z → EvOk K F H Q z → r x y H Q
def f2 (op : Sv → Sv → Option Sv) (f g : Env → M Sv) : Env → M Sv := fun env => bd (f env) fun x => bd (g env) fun y => lf (op x y)
theorem Out.lf {α : Type} {x : Option α} {A : α → Prop} {B : XD → Prop} (o : Out (lf x) A B) : ∃ a, x = some a ∧ A a := by
  rcases o with ⟨y, e, q⟩ | ⟨y, e, q⟩
  · obtain ⟨a, e1, e2⟩ := lf_ok e
    cases e2
    exact ⟨_, e1, q⟩
  · obtain ⟨a, e1, e2⟩ := lf_ok e
    cases e2
theorem t2_of {r : R2} {op : Sv → Sv → Option Sv} (v : VR2 K r op) {σ : St} {H : Hp} {Q : VK} (t : tD K W (f2 op f g) σ H Q) : tOp r (tW K W f) (tW K W g) σ H Q := by
  obtain ⟨F0, H0, F, env, s, o⟩ := t
  have o : Out (f2 op f g env) (EvOk K F H Q) (ExOk K F H W σ) := o
  refine tW.out s (Out.imp o.bd (fun x ox => ?_) fun _ k => k)
  intro v1 F1 H1 fp g1 w1
  refine tW.out (s.on g1) (Out.imp ox.bd (fun y oy => ?_) fun _ k => k.on g1)
  intro v2 F2 H2 fq g2 w2
  obtain ⟨z, ez, kz⟩ := oy.lf
  exact v F2 H2 v1 v2 x y fp fq z Q g2.fh (w1.mono g2) w2 ez (kz.on (g1.trans g2))
theorem pd_op {op : Operator} {r : R2} {fn : Sv → Sv → Option Sv} {pos : Pos} (ho : OpR X (binaryOp op) r) (v : VR2 K r fn) (ha : PE X a (tW K W f)) (hb : PE X b (tW K W g)) : PE X (.BinOp a op b pos) (tD K W (f2 fn f g)) :=
  PE.imp (pe_op ho ha hb) fun _ _ _ t => t2_of v t
theorem pd_cmp {op : CmpOp} {r : R2} {fn : Sv → Sv → Option Sv} {pos : Pos} (ho : OpR X (compareOp op) r) (v : VR2 K r fn) (ha : PE X a (tW K W f)) (hb : PE X b (tW K W g)) (hm : behindInMarks op b = false) : PE X (.Compare a [op] [b] pos) (tD K W (f2 fn f g)) :=
  PE.imp (pe_cmpR ho ha hb hm) fun _ _ _ t => t2_of v t
theorem VR2.or {r r' : R2} {op op' : Sv → Sv → Option Sv} (v : VR2 K r op) (v' : VR2 K r' op') : VR2 K (fun x y H Q => r x y H Q ∨ r' x y H Q) (fun p q => (op p q).or (op' p q)) := by
  intro F H x y p q fp fq z Q e w1 w2 h k
  dsimp only at h ⊢
  cases q1 : op p q with
  | some u =>
    rw [q1] at h
    have : u = z := Option.some.inj h
    subst this
    exact .inl (v F H x y p q fp fq _ Q e w1 w2 q1 k)
  | none =>
    rw [q1] at h
    exact .inr (v' F H x y p q fp fq _ Q e w1 w2 h k)
/-- flat results -/
theorem EvOk.fl {d : D} {v : V} (k : EvOk K F H Q (0, d)) (e : Ex F H) (r : Rp K F d v) : Q v H := k.z (Gr.refl e) r
theorem Ow.int {n : Nat} {i : Int} {v : V} {fp : List Addr} (h : Ow K F H n (.int i) v fp) : v = .int i := by
  cases n with
  | zero => exact h.2
  | succ n => obtain ⟨a, o, r, _, _, _, _, h5⟩ := h; cases o <;> exact h5.elim
theorem Ow.str {n : Nat} {x : Str} {v : V} {fp : List Addr} (h : Ow K F H n (.str x) v fp) : v = .str x := by
  cases n with
  | zero => exact h.2
  | succ n => obtain ⟨a, o, r, _, _, _, _, h5⟩ := h; cases o <;> exact h5.elim
theorem Ow.bl {n : Nat} {b : Bool} {v : V} {fp : List Addr} (h : Ow K F H n (.bl b) v fp) : v = .bl b := by
  cases n with
  | zero => exact h.2
  | succ n => obtain ⟨a, o, r, _, _, _, _, h5⟩ := h; cases o <;> exact h5.elim
theorem Ow.non {n : Nat} {v : V} {fp : List Addr} (h : Ow K F H n .non v fp) : v = .non := by
  cases n with
  | zero => exact h.2
  | succ n => obtain ⟨a, o, r, _, _, _, _, h5⟩ := h; cases o <;> exact h5.elim
/-- ints in, one value out -/
def oI (C : Int → Int → Bool) (fn : Int → Int → D) : Sv → Sv → Option Sv := fun p q => match p.2, q.2 with
  | .int i, .int j => if C i j then some (0, fn i j) else none
  | _, _ => none
theorem oI_some {C : Int → Int → Bool} {fn : Int → Int → D} {p q z : Sv} (h : oI C fn p q = some z) : ∃ i j, p.2 = .int i ∧ q.2 = .int j ∧ C i j = true ∧ z = (0, fn i j) := by
  obtain ⟨n, d⟩ := p
  obtain ⟨m, d'⟩ := q
  unfold oI at h
  split at h
  · rename_i i j e1 e2
    split at h
    · rename_i hc
      exact ⟨i, j, e1, e2, hc, (Option.some.inj h).symm⟩
    · cases h
  · cases h
theorem vI {C : Int → Int → Prop} {c : Int → Int → Bool} {fv : Int → Int → V} {fn : Int → Int → D} (hc : ∀ i j, c i j = true → C i j) (hr : ∀ F i j, Rp K F (fn i j) (fv i j)) : VR2 K (rI C fv) (oI c fn) := by
  intro F H x y p q fp fq z Q e w1 w2 h k
  obtain ⟨i, j, e1, e2, h1, rfl⟩ := oI_some h
  rw [e1] at w1
  rw [e2] at w2
  exact ⟨i, j, w1.int, w2.int, hc i j h1, k.fl e (hr F i j)⟩
theorem vI0 {fv : Int → Int → V} {fn : Int → Int → D} (hr : ∀ F i j, Rp K F (fn i j) (fv i j)) : VR2 K (rI0 fv) (oI (fun _ _ => true) fn) := by
  intro F H x y p q fp fq z Q e w1 w2 h k
  obtain ⟨i, j, e1, e2, h1, rfl⟩ := oI_some h
  rw [e1] at w1
  rw [e2] at w2
  exact ⟨i, j, w1.int, w2.int, k.fl e (hr F i j)⟩
end
end DP
/-! DP: operations on data. -/
namespace DP
open PySem L2
section
variable {K : Fg} {F H : Hp} {Q : VK} {X : Cx}

/-! ### lists and tuples as operands -/
theorem Ow.lst {n : Nat} {ds : List D} {v : V} {fp : List Addr} (e : Ex F H) (h : Ow K F H n (.lst ds) v fp) (hn : n ≤ 1) : ∃ a vs, v = .ref a ∧ H a = some (.lst vs) ∧ RpL K F ds vs := by
  cases n with
  | zero => obtain ⟨_, a, vs, h1, h2, h3⟩ := h; exact ⟨a, vs, h1, e _ _ h2, h3⟩
  | succ n =>
    have z : n = 0 := by omega
    subst z
    obtain ⟨a, o, r, h1, h2, h3, h4, h5⟩ := h
    cases o <;> first
      | exact h5.elim
      | exact ⟨a, _, h1, h3, (OwL.one h5).2⟩
theorem Ow.lstn {n : Nat} {ds : List D} {v : V} {fp : List Addr} (e : Ex F H) (h : Ow K F H n (.lst ds) v fp) : ∃ a vs, v = .ref a ∧ H a = some (.lst vs) ∧ ds.length = vs.length := by
  cases n with
  | zero => obtain ⟨_, a, vs, h1, h2, h3⟩ := h; exact ⟨a, vs, h1, e _ _ h2, h3.len⟩
  | succ n =>
    obtain ⟨a, o, r, h1, h2, h3, h4, h5⟩ := h
    cases o <;> first
      | exact h5.elim
      | exact ⟨a, _, h1, h3, OwL.len h5⟩
theorem Ow.sl {n : Nat} {ds : List D} {v : V} {fp : List Addr} (e : Ex F H) (h : Ow K F H n (.sl ds) v fp) : n = 0 ∧ ∃ a vs, v = .ref a ∧ SqL K H a vs ∧ RpL K F ds vs := by
  cases n with
  | zero => obtain ⟨_, a, vs, h1, h2, h3⟩ := h; exact ⟨rfl, a, vs, h1, e.sqL h2, h3⟩
  | succ n => obtain ⟨a, o, r, h1, h2, h3, h4, h5⟩ := h; cases o <;> exact h5.elim
theorem Ow.tup {n : Nat} {ds : List D} {v : V} {fp : List Addr} (e : Ex F H) (h : Ow K F H n (.tup ds) v fp) : n = 0 ∧ ∃ a vs, v = .ref a ∧ H a = some (.tup vs) ∧ RpL K F ds vs := by
  cases n with
  | zero => obtain ⟨_, a, vs, h1, h2, h3⟩ := h; exact ⟨rfl, a, vs, h1, e _ _ h2, h3⟩
  | succ n => obtain ⟨a, o, r, h1, h2, h3, h4, h5⟩ := h; cases o <;> exact h5.elim
theorem Ow.dK {n : Nat} {ks : List Key} {ds : List D} {v : V} {fp : List Addr} (e : Ex F H) (h : Ow K F H n (.dK ks ds) v fp) (hn : n ≤ 1) : ∃ a ws, v = .ref a ∧ H a = some (.dK ws) ∧ ws.map (·.1) = ks ∧ RpL K F ds (ws.map (·.2)) := by
  cases n with
  | zero => obtain ⟨_, a, vs, h1, h2, h3, h4⟩ := h; exact ⟨a, vs, h1, e _ _ h2, h3, h4⟩
  | succ n =>
    have z : n = 0 := by omega
    subst z
    obtain ⟨a, o, r, h1, h2, h3, h4, h5⟩ := h
    cases o <;> first
      | exact h5.elim
      | exact ⟨a, _, h1, h3, h5.1, (OwL.one h5.2).2⟩
theorem Ow.dT {n : Nat} {ks : List (List Key)} {ds : List D} {v : V} {fp : List Addr} (e : Ex F H) (h : Ow K F H n (.dT ks ds) v fp) (hn : n ≤ 1) : ∃ a ws, v = .ref a ∧ H a = some (.dT ws) ∧ ws.map (·.1) = ks ∧ RpL K F ds (ws.map (·.2)) := by
  cases n with
  | zero => obtain ⟨_, a, vs, h1, h2, h3, h4⟩ := h; exact ⟨a, vs, h1, e _ _ h2, h3, h4⟩
  | succ n =>
    have z : n = 0 := by omega
    subst z
    obtain ⟨a, o, r, h1, h2, h3, h4, h5⟩ := h
    cases o <;> first
      | exact h5.elim
      | exact ⟨a, _, h1, h3, h5.1, (OwL.one h5.2).2⟩
/-- a new list, owned -/
theorem EvOk.newL {ds : List D} {vs : List V} {p : Addr} (k : EvOk K F H Q (1, .lst ds)) (e : Ex F H) (r : RpL K F ds vs) (hp : H p = none) : Q (.ref p) (upd H p (.lst vs)) :=
  k (.ref p) F (upd H p (.lst vs)) [p] (Gr.own e hp) (Ow.lst1 r (e.back hp) upd_same) (List.nodup_cons.mpr ⟨by simp, List.nodup_nil⟩) fun a m => by rw [List.mem_singleton] at m; rw [m]; exact hp
theorem EvOk.newT {ds : List D} {vs : List V} {p : Addr} (k : EvOk K F H Q (0, .tup ds)) (e : Ex F H) (r : RpL K F ds vs) (hp : H p = none) : Q (.ref p) (upd H p (.tup vs)) :=
  k.z (Gr.frz e hp) ⟨p, vs, rfl, upd_same, RpL.mono (Ex.new' (e.back hp)) _ _ r⟩

/-! ### arithmetic -/
def tt : Int → Int → Bool := fun _ _ => true
def cMul (i j : Int) : Bool := (decide (-(2 ^ 64) < i) && decide (i < 2 ^ 64)) || (decide (-(2 ^ 64) < j) && decide (j < 2 ^ 64))
def cDiv (i j : Int) : Bool := decide (0 < j) && decide (j < 1073741824)
def cMod (i j : Int) : Bool := decide (0 < j)
def cPow (i j : Int) : Bool := decide (0 ≤ j) && decide (j ≤ 1000000) && decide (i.natAbs < 2 ^ 64)
def oAdd : Sv → Sv → Option Sv := oI tt fun i j => .int (i + j)
def oSub : Sv → Sv → Option Sv := oI tt fun i j => .int (i - j)
def oMul : Sv → Sv → Option Sv := oI cMul fun i j => .int (i * j)
def oDiv : Sv → Sv → Option Sv := oI cDiv fun i j => .int (i / j)
def oMod : Sv → Sv → Option Sv := oI cMod fun i j => .int (i % j)
def oPow : Sv → Sv → Option Sv := oI cPow fun i j => .int (i ^ j.toNat)
theorem vAdd : VR2 K (rI0 fun i j => .int (i + j)) oAdd := vI0 fun _ _ _ => rfl
theorem vSub : VR2 K (rI0 fun i j => .int (i - j)) oSub := vI0 fun _ _ _ => rfl
theorem vMul : VR2 K (rI CMul fun i j => .int (i * j)) oMul := vI (fun i j h => by
  unfold cMul at h
  rw [Bool.or_eq_true, Bool.and_eq_true, Bool.and_eq_true] at h
  rcases h with ⟨h1, h2⟩ | ⟨h1, h2⟩
  · exact .inl ⟨of_decide_eq_true h1, of_decide_eq_true h2⟩
  · exact .inr ⟨of_decide_eq_true h1, of_decide_eq_true h2⟩) fun _ _ _ => rfl
theorem vDiv : VR2 K (rI CDiv fun i j => .int (i / j)) oDiv := vI (fun i j h => by
  unfold cDiv at h
  rw [Bool.and_eq_true] at h
  exact ⟨of_decide_eq_true h.1, of_decide_eq_true h.2⟩) fun _ _ _ => rfl
theorem vMod : VR2 K (rI (fun _ j => 0 < j) fun i j => .int (i % j)) oMod := vI (fun i j h => of_decide_eq_true h) fun _ _ _ => rfl
theorem vPow : VR2 K (rI CPow fun i j => .int (i ^ j.toNat)) oPow := vI (fun i j h => by
  unfold cPow at h
  rw [Bool.and_eq_true, Bool.and_eq_true] at h
  exact ⟨of_decide_eq_true h.1.1, of_decide_eq_true h.1.2, of_decide_eq_true h.2⟩) fun _ _ _ => rfl
/-- texts, lists -/
def oCatS : Sv → Sv → Option Sv := fun p q => match p.2, q.2 with
  | .str x, .str y => if x.length + y.length ≤ sizeLine then some (0, .str (x ++ y)) else none
  | _, _ => none
theorem vCatS : VR2 K (fun x y H Q => ∃ i j, x = .str i ∧ y = .str j ∧ i.length + j.length ≤ sizeLine ∧ Q (.str (i ++ j)) H) oCatS := by
  intro F H x y p q fp fq z Q e w1 w2 h k
  obtain ⟨n, d⟩ := p
  obtain ⟨m, d'⟩ := q
  cases d <;> first | (cases h; done) | skip
  cases d' <;> first | (cases h; done) | skip
  rename_i s1 s2
  have h' : (if s1.length + s2.length ≤ sizeLine then some ((0, .str (s1 ++ s2)) : Sv) else none) = some z := h
  by_cases c : s1.length + s2.length ≤ sizeLine
  · rw [if_pos c] at h'
    cases h'
    exact ⟨s1, s2, w1.str, w2.str, c, k.fl e rfl⟩
  · rw [if_neg c] at h'; cases h'
def oCatL : Sv → Sv → Option Sv := fun p q => match p, q with
  | (n, .lst x), (m, .lst y) => if n ≤ 1 ∧ m ≤ 1 ∧ x.length + y.length ≤ sizeLine then some (1, .lst (x ++ y)) else none
  | _, _ => none
theorem vCatL : VR2 K rCat oCatL := by
  intro F H x y p q fp fq z Q e w1 w2 h k
  obtain ⟨n, d⟩ := p
  obtain ⟨m, d'⟩ := q
  cases d <;> first | (cases h; done) | skip
  cases d' <;> first | (cases h; done) | skip
  rename_i s1 s2
  have h' : (if n ≤ 1 ∧ m ≤ 1 ∧ s1.length + s2.length ≤ sizeLine then some ((1, .lst (s1 ++ s2)) : Sv) else none) = some z := h
  by_cases c : n ≤ 1 ∧ m ≤ 1 ∧ s1.length + s2.length ≤ sizeLine
  · rw [if_pos c] at h'
    cases h'
    obtain ⟨a, vs, rfl, ha, ra⟩ := w1.lst e c.1
    obtain ⟨b, ws, rfl, hb, rb⟩ := w2.lst e c.2.1
    exact ⟨a, b, vs, ws, rfl, rfl, ha, hb, by rw [← ra.len, ← rb.len]; exact c.2.2, fun p hp => k.newL e (ra.append rb) hp⟩
  · rw [if_neg c] at h'; cases h'
def oCatT : Sv → Sv → Option Sv := fun p q => match p, q with
  | (_, .tup x), (_, .tup y) => if x ≠ [] ∧ y ≠ [] ∧ x.length + y.length ≤ sizeLine then some (0, .tup (x ++ y)) else none
  | _, _ => none
theorem vCatT : VR2 K (rCatT K) oCatT := by
  intro F H x y p q fp fq z Q e w1 w2 h k
  obtain ⟨n, d⟩ := p
  obtain ⟨m, d'⟩ := q
  cases d <;> first | (cases h; done) | skip
  cases d' <;> first | (cases h; done) | skip
  rename_i s1 s2
  have h' : (if s1 ≠ [] ∧ s2 ≠ [] ∧ s1.length + s2.length ≤ sizeLine then some ((0, .tup (s1 ++ s2)) : Sv) else none) = some z := h
  by_cases c : s1 ≠ [] ∧ s2 ≠ [] ∧ s1.length + s2.length ≤ sizeLine
  · rw [if_pos c] at h'
    cases h'
    obtain ⟨_, a, vs, rfl, ha, ra⟩ := w1.tup e
    obtain ⟨_, b, ws, rfl, hb, rb⟩ := w2.tup e
    have l1 := ra.len
    have l2 := rb.len
    have c1 := List.length_pos_iff.mpr c.1
    have c2 := List.length_pos_iff.mpr c.2.1
    refine ⟨a, b, vs, ws, rfl, rfl, SqT.of ha, SqT.of hb, ?_, by rw [← l1, ← l2]; exact c.2.2, fun z => ?_, fun _ p hp => k.newT e (ra.append rb) hp⟩
    · intro z; rw [z, List.length_nil] at l1; rw [l1] at c1; exact absurd c1 (Nat.lt_irrefl 0)
    · rw [z, List.length_nil] at l2; rw [l2] at c2; exact absurd c2 (Nat.lt_irrefl 0)
  · rw [if_neg c] at h'; cases h'
/-- [d] * n -/
def oRep : Sv → Sv → Option Sv := fun p q => match p, q with
  | (n, .lst [d]), (_, .int k) => if n ≤ 1 ∧ 0 ≤ k ∧ k ≤ 100000 then some (1, .lst (List.replicate k.toNat d)) else none
  | _, _ => none
theorem flat_rep (v : V) : ∀ n, (List.replicate n [v]).flatten = List.replicate n v
  | 0 => rfl
  | n + 1 => by rw [List.replicate_succ, List.flatten_cons, flat_rep v n, List.replicate_succ]; rfl
theorem vRep : VR2 K rRep oRep := by
  intro F H x y p q fp fq z Q e w1 w2 h k
  obtain ⟨n, d⟩ := p
  obtain ⟨m, d'⟩ := q
  cases d <;> first | (cases h; done) | skip
  rename_i xs
  rcases xs with _ | ⟨d, _ | ⟨d2, r⟩⟩ <;> first | (cases h; done) | skip
  cases d' <;> first | (cases h; done) | skip
  rename_i j
  have h' : (if n ≤ 1 ∧ 0 ≤ j ∧ j ≤ 100000 then some ((1, .lst (List.replicate j.toNat d)) : Sv) else none) = some z := h
  by_cases c : n ≤ 1 ∧ 0 ≤ j ∧ j ≤ 100000
  · rw [if_pos c] at h'
    cases h'
    obtain ⟨a, vs, rfl, ha, v, r, rfl, hv, hr⟩ := w1.lst e c.1
    cases (show r = [] from hr)
    refine ⟨a, j, [v], rfl, w2.int, ha, by omega, by omega, ?_, fun p hp => ?_⟩
    · rw [sizeLine_eq]; simp; omega
    · rw [flat_rep]
      exact k.newL e (RpL.rep hv _) hp
  · rw [if_neg c] at h'; cases h'
def oOr (f g : Sv → Sv → Option Sv) : Sv → Sv → Option Sv := fun p q => (f p q).or (g p q)

/-! ### one operand -/
def VR1 (K : Fg) (r : V → Hp → VK → Prop) (op : Sv → Option Sv) : Prop := ∀ (F H : Hp) (x : V) (p : Sv) (fp : List Addr) (z : Sv) (Q : VK), Ex F H → Ow K F H p.1 p.2 x fp → op p = some z → EvOk K F H Q z → r x H Q
def f1 (op : Sv → Option Sv) (f : Env → M Sv) : Env → M Sv := fun env => bd (f env) fun x => lf (op x)
theorem pd_un {W : WX} {a : Expr} {f : Env → M Sv} {op : UnaryOp} {r : V → Hp → VK → Prop} {fn : Sv → Option Sv} {pos : Pos} (ho : UnR X (unaryOp op) r) (v : VR1 K r fn) (ha : PE X a (tW K W f)) : PE X (.UnaryOp op a pos) (tD K W (f1 fn f)) :=
  PE.imp (pe_un ho ha) fun σ H Q ⟨F0, H0, F, env, s, o⟩ => by
    have o : Out (f1 fn f env) (EvOk K F H Q) (ExOk K F H W σ) := o
    refine tW.out s (Out.imp o.bd (fun x ox => ?_) fun _ k => k)
    intro v1 F1 H1 fp g1 w1
    obtain ⟨z, ez, kz⟩ := ox.lf
    exact v F1 H1 v1 x fp z Q g1.fh w1 ez (kz.on g1)
def oNeg : Sv → Option Sv := fun p => match p.2 with | .int i => some (0, .int (-i)) | _ => none
theorem vNeg : VR1 K (rU fun i => .int (-i)) oNeg := by
  intro F H x p fp z Q e w h k
  obtain ⟨n, d⟩ := p
  cases d <;> first | (cases h; done) | skip
  cases h
  exact ⟨_, w.int, k.fl e rfl⟩

/-! ### comparisons -/
def oB (c : Int → Int → Bool) : Sv → Sv → Option Sv := oI tt fun i j => .bl (c i j)
theorem vB {c : Int → Int → Bool} : VR2 K (rI0 fun i j => .bl (c i j)) (oB c) := vI0 fun _ _ _ => rfl
def oLt := oB fun i j => decide (i < j)
def oLe := oB fun i j => decide (i ≤ j)
def oGt := oB fun i j => decide (j < i)
def oGe := oB fun i j => decide (j ≤ i)
/-- tuples of intsOf by order -/
def intsOf : List D → Option (List Int)
  | [] => some []
  | .int i :: r => (intsOf r).map (i :: ·)
  | _ :: _ => none
theorem intsOf_map : ∀ (ns : List Int), intsOf (ns.map D.int) = some ns
  | [] => rfl
  | n :: ns => by show (intsOf (ns.map D.int)).map (n :: ·) = _; rw [intsOf_map ns]; rfl
theorem intsOf_some : ∀ {ds : List D} {ns : List Int}, intsOf ds = some ns → ds = ns.map D.int
  | [], ns, h => by cases h; rfl
  | d :: r, ns, h => by
    cases d <;> first | (cases h; done) | skip
    rename_i i
    have h' : (intsOf r).map (i :: ·) = some ns := h
    cases q : intsOf r with
    | none => rw [q] at h'; cases h'
    | some m => rw [q] at h'; cases h'; rw [List.map_cons, intsOf_some q]
theorem RpL.intsV : ∀ {ns : List Int} {vs : List V}, RpL K F (ns.map D.int) vs → vs = ns.map V.int
  | [], _, h => h
  | n :: ns, _, ⟨v, r, h1, h2, h3⟩ => by rw [h1, (show v = .int n from h2), RpL.intsV h3]; rfl
def oLtT : Sv → Sv → Option Sv := fun p q => match p.2, q.2 with
  | .tup x, .tup y => (intsOf x).bind fun a => (intsOf y).map fun b => ((0, .bl (HT.lexLt a b)) : Sv)
  | _, _ => none
theorem vLtT : VR2 K (rLtT K) oLtT := by
  intro F H x y p q fp fq z Q e w1 w2 h k
  obtain ⟨n, d⟩ := p
  obtain ⟨m, d'⟩ := q
  cases d <;> first | (cases h; done) | skip
  cases d' <;> first | (cases h; done) | skip
  rename_i s1 s2
  have h' : ((DP.intsOf s1).bind fun a => (DP.intsOf s2).map fun b => ((0, .bl (HT.lexLt a b)) : Sv)) = some z := h
  cases q1 : DP.intsOf s1 with
  | none => rw [q1] at h'; cases h'
  | some a =>
    rw [q1, Option.bind_some] at h'
    cases q2 : DP.intsOf s2 with
    | none => rw [q2] at h'; cases h'
    | some b =>
      rw [q2] at h'
      cases h'
      obtain ⟨_, p1, vs, rfl, ha, ra⟩ := w1.tup e
      obtain ⟨_, p2, ws, rfl, hb, rb⟩ := w2.tup e
      rw [intsOf_some q1] at ra
      rw [intsOf_some q2] at rb
      rw [ra.intsV] at ha
      rw [rb.intsV] at hb
      exact ⟨p1, p2, a, b, rfl, rfl, SqT.of ha, SqT.of hb, k.fl e rfl⟩
/-- is None -/
def isNone : D → Bool | .non => true | _ => false
def oIs : Sv → Sv → Option Sv := fun p q => match q.2 with | .non => some (0, .bl (isNone p.2)) | _ => none
def oIsNot : Sv → Sv → Option Sv := fun p q => match q.2 with | .non => some (0, .bl (!isNone p.2)) | _ => none
theorem Ow.isNone {n : Nat} {d : D} {v : V} {fp : List Addr} (h : Ow K F H n d v fp) : decide (v = .non) = isNone d := by
  cases n with
  | zero =>
    obtain ⟨_, h⟩ := h
    cases d <;> first
      | (cases h; rfl)
      | (obtain ⟨a, _, h1, _⟩ := h; rw [h1]; rfl)
      | (obtain ⟨a, _, _, h1, _⟩ := h; rw [h1]; rfl)
  | succ n =>
    obtain ⟨a, o, r, h1, h2, h3, h4, h5⟩ := h
    rw [h1]
    cases d <;> cases o <;> first
      | exact h5.elim
      | rfl
theorem vIs : VR2 K (fun x y H Q => y = .non ∧ Q (.bl (decide (x = .non))) H) oIs := by
  intro F H x y p q fp fq z Q e w1 w2 h k
  obtain ⟨m, d'⟩ := q
  cases d' <;> first | (cases h; done) | skip
  cases h
  exact ⟨w2.non, by rw [w1.isNone]; exact k.fl e rfl⟩
theorem vIsNot : VR2 K (fun x y H Q => y = .non ∧ Q (.bl (!decide (x = .non))) H) oIsNot := by
  intro F H x y p q fp fq z Q e w1 w2 h k
  obtain ⟨m, d'⟩ := q
  cases d' <;> first | (cases h; done) | skip
  cases h
  exact ⟨w2.non, by rw [w1.isNone]; exact k.fl e rfl⟩
def oIsB : Sv → Sv → Option Sv := fun p q => match p.2, q.2 with | .bl a, .bl b => some (0, .bl (a == b)) | _, _ => none
def oIsNotB : Sv → Sv → Option Sv := fun p q => match p.2, q.2 with | .bl a, .bl b => some (0, .bl (!(a == b))) | _, _ => none
theorem vIsB : VR2 K rIsB oIsB := by
  intro F H x y p q fp fq z Q e w1 w2 h k
  obtain ⟨n, d⟩ := p
  obtain ⟨m, d'⟩ := q
  cases d <;> first | (cases h; done) | skip
  cases d' <;> first | (cases h; done) | skip
  cases h
  exact ⟨_, _, w1.bl, w2.bl, k.fl e (by rw [Bool.beq_eq_decide_eq]; rfl)⟩
theorem vIsNotB : VR2 K rNotB oIsNotB := by
  intro F H x y p q fp fq z Q e w1 w2 h k
  obtain ⟨n, d⟩ := p
  obtain ⟨m, d'⟩ := q
  cases d <;> first | (cases h; done) | skip
  cases d' <;> first | (cases h; done) | skip
  cases h
  exact ⟨_, _, w1.bl, w2.bl, k.fl e (by rw [Bool.beq_eq_decide_eq]; rfl)⟩

/-! ### == of data -/
mutual
def pyd : D → PyData
  | .non => .none
  | .bl b => .bool b
  | .int i => .int i
  | .str x => .str x
  | .tup xs => .tuple (pydL xs)
  | .lst xs => .list (pydL xs)
  | _ => .dict []
def pydL : List D → List PyData
  | [] => []
  | x :: xs => pyd x :: pydL xs
end
theorem pydL_map : ∀ xs : List D, pydL xs = xs.map pyd
  | [] => rfl
  | x :: xs => by rw [pydL, pydL_map xs]; rfl
mutual
theorem Rp.dp (e : Ex F H) : ∀ (d : D) (v : V), (pyd d).canLay0 = true → Rp K F d v → Dp K H v (pyd d)
  | .non, _, _, h => by cases h; exact .non
  | .bl b, _, _, h => by cases h; exact .bl b
  | .int b, _, _, h => by cases h; exact .int b
  | .str b, _, _, h => by cases h; exact .str b
  | .tup xs, _, l, ⟨a, vs, h1, h2, h3⟩ => by
    subst h1
    exact .tup (SqT.of (e _ _ h2)) (RpL.dp e xs vs (by simpa [pyd, PyData.canLay0] using l) h3)
  | .lst xs, _, l, ⟨a, vs, h1, h2, h3⟩ => by
    subst h1
    exact .lst (SqL.of (e _ _ h2)) (RpL.dp e xs vs (by simpa [pyd, PyData.canLay0] using l) h3)
  | .ref _, _, l, _ => by simp [pyd, PyData.canLay0] at l
  | .sl _, _, l, _ => by simp [pyd, PyData.canLay0] at l
  | .dK _ _, _, l, _ => by simp [pyd, PyData.canLay0] at l
  | .dT _ _, _, l, _ => by simp [pyd, PyData.canLay0] at l
  | .ins _ _ _, _, l, _ => by simp [pyd, PyData.canLay0] at l
theorem RpL.dp (e : Ex F H) : ∀ (ds : List D) (vs : List V), PyData.canLayAll0 (pydL ds) = true → RpL K F ds vs → DpAll K H vs (pydL ds)
  | [], _, _, h => by cases (show _ = [] from h); exact .nil
  | x :: xs, _, l, ⟨v, r, h1, h2, h3⟩ => by
    subst h1
    have l' : (pyd x).canLay0 = true ∧ PyData.canLayAll0 (pydL xs) = true := by simpa [pydL, PyData.canLayAll0] using l
    exact .cons (Rp.dp e x v l'.1 h2) (RpL.dp e xs r l'.2 h3)
end
theorem Ow.dp {n : Nat} {d : D} {v : V} {fp : List Addr} (e : Ex F H) (h : Ow K F H n d v fp) (l : (pyd d).canLay0 = true) : Dp K H v (pyd d) :=
  Rp.dp (F := frz F H fp) (frz_fh e) d v l (Ow.frozen (frz_ex fun a m => (h.fp a m).1) (fun a m => frz_in m) h)
def shp (d : D) : Bool := SeqAt.shaped (pyd d)
def eqD (d e : D) : Bool := PyData.eqv (pyd d) (pyd e)
def oEq : Sv → Sv → Option Sv := fun p q => if shp p.2 && shp q.2 then some (0, .bl (eqD p.2 q.2)) else none
def oNe : Sv → Sv → Option Sv := fun p q => if shp p.2 && shp q.2 then some (0, .bl (!eqD p.2 q.2)) else none
theorem vEq : VR2 K (rEqD K) oEq := by
  intro F H x y p q fp fq z Q e w1 w2 h k
  unfold oEq at h
  cases c : (shp p.2 && shp q.2) with
  | false => rw [c] at h; cases h
  | true =>
    rw [c, if_pos rfl] at h
    cases h
    rw [Bool.and_eq_true] at c
    exact ⟨_, _, w1.dp e (SeqAt.canLay_of_shaped c.1), w2.dp e (SeqAt.canLay_of_shaped c.2), c.1, c.2, k.fl e rfl⟩
theorem vNe : VR2 K (rNeD K) oNe := by
  intro F H x y p q fp fq z Q e w1 w2 h k
  unfold oNe at h
  cases c : (shp p.2 && shp q.2) with
  | false => rw [c] at h; cases h
  | true =>
    rw [c, if_pos rfl] at h
    cases h
    rw [Bool.and_eq_true] at c
    exact ⟨_, _, w1.dp e (SeqAt.canLay_of_shaped c.1), w2.dp e (SeqAt.canLay_of_shaped c.2), c.1, c.2, k.fl e rfl⟩

/-! ### in, not in -/
/-- one sign in a text -/
def oInS (neg : Bool) : Sv → Sv → Option Sv := fun p q => match p.2, q.2 with
  | .str x, .str z => match x.cps.toList with
    | [c] => some (0, .bl (if neg then !decide (c ∈ z.cps.toList) else decide (c ∈ z.cps.toList)))
    | _ => none
  | _, _ => none
theorem str_one {x : Str} {c : Nat} (h : x.cps.toList = [c]) : x = ⟨#[c]⟩ := by
  obtain ⟨⟨l⟩⟩ := x
  have : l = [c] := h
  rw [this]
theorem oInS_some {neg : Bool} {p q z : Sv} (h : oInS neg p q = some z) : ∃ c y, p.2 = .str ⟨#[c]⟩ ∧ q.2 = .str y ∧ z = (0, .bl (if neg then !decide (c ∈ y.cps.toList) else decide (c ∈ y.cps.toList))) := by
  obtain ⟨n, d⟩ := p
  obtain ⟨m, d'⟩ := q
  cases d <;> first | (cases h; done) | skip
  cases d' <;> first | (cases h; done) | skip
  rename_i x y
  have h' : (match x.cps.toList with
    | [c] => some ((0, .bl (if neg then !decide (c ∈ y.cps.toList) else decide (c ∈ y.cps.toList))) : Sv)
    | _ => none) = some z := h
  rcases q : x.cps.toList with _ | ⟨c, _ | ⟨c2, r⟩⟩
  · rw [q] at h'; cases h'
  · rw [q] at h'; cases h'
    exact ⟨c, y, by rw [str_one q], rfl, rfl⟩
  · rw [q] at h'; cases h'
def rInS' (neg : Bool) : R2 := fun x y H Q => ∃ (c : Nat) (z : Str), x = .str ⟨#[c]⟩ ∧ y = .str z ∧ Q (.bl (if neg then !decide (c ∈ z.cps.toList) else decide (c ∈ z.cps.toList))) H
theorem op_inS' : OpR X (compareOp .In) (rInS' false) := op_in_sign
theorem op_notInS' : OpR X (compareOp .NotIn) (rInS' true) := op_notIn_sign
theorem vInS {neg : Bool} : VR2 K (rInS' neg) (oInS neg) := by
  intro F H x y p q fp fq z Q e w1 w2 h k
  obtain ⟨c, t, e1, e2, rfl⟩ := oInS_some h
  rw [e1] at w1
  rw [e2] at w2
  exact ⟨c, t, w1.str, w2.str, k.fl e rfl⟩
/-- flat data -/
def flat : D → Bool | .non => true | .bl _ => true | .int _ => true | .str _ => true | _ => false
def fv : D → V | .non => .non | .bl b => .bl b | .int i => .int i | .str x => .str x | _ => .non
theorem Ow.fv {n : Nat} {d : D} {v : V} {fp : List Addr} (h : Ow K F H n d v fp) (f : flat d = true) : v = fv d := by
  cases d <;> first
    | exact absurd (show false = true from f) Bool.false_ne_true
    | exact h.non
    | exact h.bl
    | exact h.int
    | exact h.str
theorem RpL.fv : ∀ {ds : List D} {vs : List V}, RpL K F ds vs → ds.all flat = true → vs = ds.map DP.fv
  | [], _, h, _ => h
  | d :: ds, _, ⟨v, r, h1, h2, h3⟩, f => by
    rw [List.all_cons, Bool.and_eq_true] at f
    rw [h1, Ow.fv (H := F) (Ow.z h2) f.1, RpL.fv h3 f.2]; rfl
theorem flatV_fv {d : D} (f : flat d = true) : flatV (fv d) = true := by
  cases d <;> first | rfl | exact absurd (show false = true from f) Bool.false_ne_true
theorem flatV_all : ∀ {ds : List D}, ds.all flat = true → (ds.map fv).all flatV = true
  | [], _ => rfl
  | d :: ds, f => by
    rw [List.all_cons, Bool.and_eq_true] at f
    rw [List.map_cons, List.all_cons, flatV_fv f.1, flatV_all f.2]; rfl
theorem Rp.flat {d : D} (f : flat d = true) : Rp K F d (fv d) := by
  cases d <;> first | rfl | exact absurd (show false = true from f) Bool.false_ne_true
/-- == of flat data -/
def eqF (d e : D) : Bool := eqV (fv d) (fv e)
def seqOf : Sv → Option (List D)
  | (n, .lst x) => if n ≤ 1 then some x else none
  | (_, .tup x) => some x
  | (_, .sl x) => some x
  | _ => none
theorem Ow.seq {p : Sv} {v : V} {fp : List Addr} {ds : List D} (e : Ex F H) (h : Ow K F H p.1 p.2 v fp) (s : seqOf p = some ds) : ∃ a vs, v = .ref a ∧ (SqL K H a vs ∨ SqT K H a vs) ∧ RpL K F ds vs := by
  obtain ⟨n, d⟩ := p
  cases d <;> first | (cases s; done) | skip
  · cases s
    obtain ⟨_, a, vs, h1, h2, h3⟩ := h.tup e
    exact ⟨a, vs, h1, .inr (SqT.of h2), h3⟩
  · rename_i x
    have s' : (if n ≤ 1 then some x else none) = some ds := s
    by_cases c : n ≤ 1
    · rw [if_pos c] at s'
      cases s'
      obtain ⟨a, vs, h1, h2, h3⟩ := h.lst e c
      exact ⟨a, vs, h1, .inl (SqL.of h2), h3⟩
    · rw [if_neg c] at s'; cases s'
  · cases s
    obtain ⟨_, a, vs, h1, h2, h3⟩ := h.sl e
    exact ⟨a, vs, h1, .inl h2, h3⟩
def inF (d : D) (ds : List D) : Bool := ds.any fun y => eqF y d
theorem inV_map (d : D) (ds : List D) : inV (fv d) (ds.map fv) = inF d ds := by
  unfold inV inF eqF
  rw [List.any_map]; rfl
def oIn (neg : Bool) : Sv → Sv → Option Sv := fun p q => (seqOf q).bind fun ds => if flat p.2 && ds.all flat then some (0, .bl (if neg then !inF p.2 ds else inF p.2 ds)) else none
theorem vIn {neg : Bool} : VR2 K (rIn K neg) (oIn neg) := by
  intro F H x y p q fp fq z Q e w1 w2 h k
  unfold oIn at h
  cases s : seqOf q with
  | none => rw [s] at h; cases h
  | some ds =>
    rw [s, Option.bind_some] at h
    cases c : (flat p.2 && ds.all flat) with
    | false => rw [c] at h; cases h
    | true =>
      rw [c, if_pos rfl] at h
      cases h
      rw [Bool.and_eq_true] at c
      obtain ⟨a, vs, rfl, h2, h3⟩ := w2.seq e s
      have ev := h3.fv c.2
      have ex := w1.fv c.1
      subst ev ex
      refine ⟨a, _, rfl, h2, flatV_fv c.1, flatV_all c.2, ?_⟩
      rw [inV_map]
      exact k.fl e rfl
end
end DP
/-! DP: tests, displays, subscripts, calls of built-ins. -/
namespace DP
open PySem L2

/-! ### tests -/
section
variable {X : Cx} {K : Fg} {W : WX} {a b c : Expr} {rest : List Expr} {pos : Pos} {f g h : Env → M Sv} {t u : Env → M Bool}
def asB (x : Sv) : M Bool := match x.2 with | .bl k => M.ok k | _ => none
theorem asB_ok {x : Sv} {k : Bool} (h : asB x = M.ok k) : x.2 = .bl k := by
  obtain ⟨n, d⟩ := x
  cases d <;> first | (cases h; done) | skip
  rename_i b
  rw [Except.ok.inj (Option.some.inj (show M.ok b = M.ok k from h))]
theorem asB_er {x : Sv} {e : XD} (h : asB x = M.er e) : False := by
  obtain ⟨n, d⟩ := x
  cases d <;> first | (cases h; done) | skip
theorem tWD {K : Fg} {W : WX} {f : Env → M Sv} {σ : St} {H : Hp} {Q : VK} (z : tW K W f σ H Q) : tD K W f σ H Q := by
  obtain ⟨F0, H0, F, env, s, o⟩ := z
  have o : Out (f env) (EvWk K F H Q) (ExOk K F H W σ) := o
  exact tD.out s (Out.imp o (fun _ k => EvWk.ok k) fun _ k => k)
def fT (f : Env → M Sv) : Env → M Bool := fun env => bd (f env) asB
theorem tT_of {te : TE} (q : ∀ σ H Q, tW K W f σ H Q → te σ H Q) (σ : St) (H : Hp) (Q : Bool → Hp → Prop) (t : tB' K W (fT f) σ H Q) : te σ H fun x H' => ∃ k, x = .bl k ∧ Q k H' := by
  obtain ⟨F0, H0, F, env, s, o⟩ := t
  have o : Out (fT f env) (fun b => ∀ F' H', Gr F H F' H' → Q b H') (ExOk K F H W σ) := o
  refine q _ _ _ (tW.out s (Out.imp o.bd (fun x ox => ?_) fun _ k => k))
  intro v F1 H1 fp g1 w1
  rcases ox with ⟨k, ek, kk⟩ | ⟨e, ee, _⟩
  · rw [asB_ok ek] at w1
    exact ⟨k, w1.bl, kk F1 H1 g1⟩
  · exact (asB_er ee).elim
theorem pt_v (he : PE X a (tW K W f)) (hw : ∀ whole, isTrue a X.env whole = (do let v ← whole; standAt a.pos; holding [v] (truthy v)) := by intro _; rfl) : PT X a (tB' K W (fT f)) :=
  PT.imp (pt_val he hw) fun σ H Q t => tT_of (fun _ _ _ z => z) σ H Q t
theorem pt_cmp2 {op : CmpOp} {r : R2} {fn : Sv → Sv → Option Sv} (ho : OpR X (compareOp op) r) (v : VR2 K r fn) (ha : PE X a (tW K W f)) (hb : PE X b (tW K W g)) (hm : behindInMarks op b = false) : PT X (.Compare a [op] [b] pos) (tB' K W (fT (f2 fn f g))) :=
  PT.imp (pt_cmpR ho ha hb hm) fun σ H Q t => tT_of (f := f2 fn f g) (fun _ _ _ z => t2_of v (tWD z)) σ H Q t
def fNot (t : Env → M Bool) : Env → M Bool := fun env => bd (t env) fun k => M.ok !k
def fAnd (t u : Env → M Bool) : Env → M Bool := fun env => bd (t env) fun k => if k then u env else M.ok false
def fOr (t u : Env → M Bool) : Env → M Bool := fun env => bd (t env) fun k => if k then M.ok true else u env
theorem pt_n (ha : PT X a (tB' K W t)) : PT X (.UnaryOp .Not a pos) (tB' K W (fNot t)) := PT.imp (pt_not ha) fun σ H Q ⟨F0, H0, F, env, s, o⟩ => by
  have o : Out (fNot t env) (fun b => ∀ F' H', Gr F H F' H' → Q b H') (ExOk K F H W σ) := o
  exact tB'.out s (Out.imp o.bd (fun x ox F' H' g => ox.ok rfl F' H' g) fun _ k => k)
theorem SR.out2 {F0 H0 F H F' H' : Hp} {σ : St} {env : Env} {Q : Bool → Hp → Prop} (s : SR K F0 H0 F H σ env) (gr : Gr F H F' H') (o : Out (u env) (fun b => ∀ F' H', Gr F H F' H' → Q b H') (ExOk K F H W σ)) : tB' K W u σ H' Q :=
  tB'.out (s.on gr) (Out.imp o (fun _ k F2 H2 g2 => k F2 H2 (gr.trans g2)) fun _ k => k.on gr)
theorem pw_a1 (ha : PT X a (tB' K W t)) : PW X (.BoolOp .And [a] pos) (tB' K W t) := pw_and1 ha
theorem pw_o1 (ha : PT X a (tB' K W t)) : PW X (.BoolOp .Or [a] pos) (tB' K W t) := pw_or1 ha
theorem pw_a (ha : PT X a (tB' K W t)) (hb : PW X (.BoolOp .And (b :: rest) pos) (tB' K W u)) : PW X (.BoolOp .And (a :: b :: rest) pos) (tB' K W (fAnd t u)) := PW.imp (pw_and ha hb) fun σ H Q ⟨F0, H0, F, env, s, o⟩ => by
  have o : Out (fAnd t u env) (fun b => ∀ F' H', Gr F H F' H' → Q b H') (ExOk K F H W σ) := o
  refine tB'.out s (Out.imp o.bd (fun x ox F' H' g => ?_) fun _ k => k)
  cases x with
  | true => exact SR.out2 s g ox
  | false => exact ox.ok rfl F' H' g
theorem pw_o (ha : PT X a (tB' K W t)) (hb : PW X (.BoolOp .Or (b :: rest) pos) (tB' K W u)) : PW X (.BoolOp .Or (a :: b :: rest) pos) (tB' K W (fOr t u)) := PW.imp (pw_or ha hb) fun σ H Q ⟨F0, H0, F, env, s, o⟩ => by
  have o : Out (fOr t u env) (fun b => ∀ F' H', Gr F H F' H' → Q b H') (ExOk K F H W σ) := o
  refine tB'.out s (Out.imp o.bd (fun x ox F' H' g => ?_) fun _ k => k)
  cases x with
  | false => exact SR.out2 s g ox
  | true => exact ox.ok rfl F' H' g
theorem EvOk.out {F0 H0 F H F' H' : Hp} {σ : St} {env : Env} {Q : VK} (s : SR K F0 H0 F H σ env) (gr : Gr F H F' H') (o : Out (f env) (EvOk K F H Q) (ExOk K F H W σ)) : tD K W f σ H' Q :=
  tD.out (s.on gr) (Out.imp o (fun _ k => k.on gr) fun _ k => k.on gr)
/-- as values -/
def fAndV (f g : Env → M Sv) : Env → M Sv := fun env => bd (f env) fun x => bd (asB x) fun k => if k then g env else M.ok (0, .bl false)
def fOrV (f g : Env → M Sv) : Env → M Sv := fun env => bd (f env) fun x => bd (asB x) fun k => if k then M.ok (0, .bl true) else g env
def fNotV (f : Env → M Sv) : Env → M Sv := fun env => bd (f env) fun x => bd (asB x) fun k => M.ok (0, .bl (!k))
theorem pd_one {op} (he : PE X a (tD K W f)) : PE X (.BoolOp op [a] pos) (tD K W f) := pe_one he
theorem pd_and (ha : PE X a (tW K W f)) (hb : PE X (.BoolOp .And (b :: rest) pos) (tD K W g)) : PE X (.BoolOp .And (a :: b :: rest) pos) (tD K W (fAndV f g)) := PE.imp (pe_and ha hb) fun σ H Q ⟨F0, H0, F, env, s, o⟩ => by
  have o : Out (fAndV f g env) (EvOk K F H Q) (ExOk K F H W σ) := o
  refine tW.out s (Out.imp o.bd (fun x ox => ?_) fun _ k => k)
  intro v F1 H1 fp g1 w1
  rcases ox.bd with ⟨k, ek, ok⟩ | ⟨e, ee, _⟩
  · rw [asB_ok ek] at w1
    refine ⟨k, w1.bl, ?_⟩
    cases k with
    | true => exact EvOk.out s g1 ok
    | false => exact (ok.ok rfl).z g1 rfl
  · exact (asB_er ee).elim
theorem pd_or (ha : PE X a (tW K W f)) (hb : PE X (.BoolOp .Or (b :: rest) pos) (tD K W g)) : PE X (.BoolOp .Or (a :: b :: rest) pos) (tD K W (fOrV f g)) := PE.imp (pe_or ha hb) fun σ H Q ⟨F0, H0, F, env, s, o⟩ => by
  have o : Out (fOrV f g env) (EvOk K F H Q) (ExOk K F H W σ) := o
  refine tW.out s (Out.imp o.bd (fun x ox => ?_) fun _ k => k)
  intro v F1 H1 fp g1 w1
  rcases ox.bd with ⟨k, ek, ok⟩ | ⟨e, ee, _⟩
  · rw [asB_ok ek] at w1
    refine ⟨k, w1.bl, ?_⟩
    cases k with
    | false => exact EvOk.out s g1 ok
    | true => exact (ok.ok rfl).z g1 rfl
  · exact (asB_er ee).elim
theorem pd_not (ha : PE X a (tW K W f)) : PE X (.UnaryOp .Not a pos) (tD K W (fNotV f)) := PE.imp (pe_not ha) fun σ H Q ⟨F0, H0, F, env, s, o⟩ => by
  have o : Out (fNotV f env) (EvOk K F H Q) (ExOk K F H W σ) := o
  refine tW.out s (Out.imp o.bd (fun x ox => ?_) fun _ k => k)
  intro v F1 H1 fp g1 w1
  rcases ox.bd with ⟨k, ek, ok⟩ | ⟨e, ee, _⟩
  · rw [asB_ok ek] at w1
    exact ⟨k, w1.bl, (ok.ok rfl).z g1 rfl⟩
  · exact (asB_er ee).elim
def fIf (t : Env → M Bool) (f g : Env → M Sv) : Env → M Sv := fun env => bd (t env) fun k => if k then f env else g env
theorem pd_if (hc : PT X c (tB' K W t)) (ha : PE X a (tD K W f)) (hb : PE X b (tD K W g)) : PE X (.IfExp c a b pos) (tD K W (fIf t f g)) := PE.imp (pe_ifExp hc ha hb) fun σ H Q ⟨F0, H0, F, env, s, o⟩ => by
  have o : Out (fIf t f g env) (EvOk K F H Q) (ExOk K F H W σ) := o
  refine tB'.out s (Out.imp o.bd (fun x ox F' H' gr => ?_) fun _ k => k)
  cases x with
  | true => exact EvOk.out s gr ox
  | false => exact EvOk.out s gr ox
/-- a op b op' c -/
def fChain (op op' : Sv → Sv → Option Sv) (f g h : Env → M Sv) : Env → M Sv := fun env => bd (f env) fun x => bd (g env) fun y => bd (lf (op x y)) fun z => bd (asB z) fun k => if k then bd (h env) fun w => lf (op' y w) else M.ok (0, .bl false)
theorem tChain_of {r r' : R2} {op op' : Sv → Sv → Option Sv} (v : VR2 K r op) (v' : VR2 K r' op') {σ : St} {H : Hp} {Q : VK} (q : tD K W (fChain op op' f g h) σ H Q) : tChain r r' (tW K W f) (tW K W g) (tW K W h) σ H Q := by
  obtain ⟨F0, H0, F, env, s, o⟩ := q
  have o : Out (fChain op op' f g h env) (EvOk K F H Q) (ExOk K F H W σ) := o
  refine tW.out s (Out.imp o.bd (fun x ox => ?_) fun _ k => k)
  intro v1 F1 H1 fp g1 w1
  refine tW.out (s.on g1) (Out.imp ox.bd (fun y oy => ?_) fun _ k => k.on g1)
  intro v2 F2 H2 fq g2 w2
  have g12 := g1.trans g2
  obtain ⟨z, ez, oz⟩ := oy.bd.lf
  refine v F2 H2 v1 v2 x y fp fq z _ g2.fh (w1.mono g2) w2 ez ?_
  intro v3 F3 H3 fr g3 w3 _ _
  rcases oz.bd with ⟨k, ek, ok⟩ | ⟨e, ee, _⟩
  · rw [asB_ok ek] at w3
    refine ⟨k, w3.bl, ?_⟩
    cases k with
    | false => exact (ok.ok rfl).z (g12.trans g3) rfl
    | true =>
      refine tW.out ((s.on g12).on g3) (Out.imp ok.bd (fun w' ow => ?_) fun _ k => k.on (g12.trans g3))
      intro v4 F4 H4 ft g4 w4
      obtain ⟨z', ez', kz'⟩ := ow.lf
      exact v' F4 H4 v2 v4 y w' fq ft z' Q g4.fh ((w2.mono g3).mono g4) w4 ez' (kz'.on ((g12.trans g3).trans g4))
  · exact (asB_er ee).elim
theorem pd_chain {op op' : CmpOp} {r r' : R2} {fn fn' : Sv → Sv → Option Sv} (ho : OpR X (compareOp op) r) (v : VR2 K r fn) (ho' : OpR X (compareOp op') r') (v' : VR2 K r' fn') (ha : PE X a (tW K W f)) (hb : PE X b (tW K W g)) (hc : PE X c (tW K W h))
    (hm : lastMarks [op, op'] [b, c] = false := by with_unfolding_all rfl) : PE X (.Compare a [op, op'] [b, c] pos) (tD K W (fChain fn fn' f g h)) := PE.imp (pe_chain ho ho' ha hb hc hm) fun σ H Q q => tChain_of v v' q
theorem pt_chain2 {op op' : CmpOp} {r r' : R2} {fn fn' : Sv → Sv → Option Sv} (ho : OpR X (compareOp op) r) (v : VR2 K r fn) (ho' : OpR X (compareOp op') r') (v' : VR2 K r' fn') (ha : PE X a (tW K W f)) (hb : PE X b (tW K W g)) (hc : PE X c (tW K W h))
    (hm : lastMarks [op, op'] [b, c] = false := by with_unfolding_all rfl) : PT X (.Compare a [op, op'] [b, c] pos) (tB' K W (fT (fChain fn fn' f g h))) := PT.imp (pt_chain ho ho' ha hb hc hm) fun σ H Q t =>
  tT_of (f := fChain fn fn' f g h) (fun _ _ _ z => tChain_of v v' (tWD z)) σ H Q t
/-- what was made is frozen -/
def fFz (f : Env → M Sv) : Env → M Sv := fun env => bd (f env) fun x => M.ok (0, x.2)
theorem Gr.fz {K : Fg} {F H F' H' : Hp} {n : Nat} {d : D} {v : V} {fp : List Addr} (g : Gr F H F' H') (o : Ow K F' H' n d v fp) (nw : ∀ a ∈ fp, H a = none) : Gr F H (DP.frz F' H' fp) H' ∧ Rp K (DP.frz F' H' fp) d v := by
  have z : ∀ a ∈ fp, F' a = none := fun a m => (o.fp a m).1
  refine ⟨⟨g.ff.tr (frz_ex z), g.hh, frz_fh g.fh, fun a u e => ?_⟩, Ow.frozen (frz_ex z) (fun a m => frz_in m) o⟩
  rw [frz_out fun m => by rw [nw a m] at e; cases e]
  exact g.nw a u e
theorem pd_fz (ha : PE X a (tD K W f)) : PE X a (tD K W (fFz f)) := PE.imp ha fun σ H Q ⟨F0, H0, F, env, s, o⟩ => by
  have o : Out (fFz f env) (EvOk K F H Q) (ExOk K F H W σ) := o
  refine tD.out s (Out.imp o.bd (fun x ox => ?_) fun _ k => k)
  intro v F1 H1 fp g1 w1 nd nw
  obtain ⟨g2, r⟩ := g1.fz w1 nw
  exact (ox.ok rfl).z g2 r

/-! ### arguments -/
theorem Al.mono {F H F' H' : Hp} (g : Gr F H F' H') : ∀ {xs : List Sv} {vs : List V} {fp : List Addr}, Al K F H xs vs fp → Al K F' H' xs vs fp
  | [], _, _, h => h
  | x :: xs, _, _, ⟨v, r, f1, f2, h1, h2, h3, h4⟩ => ⟨v, r, f1, f2, h1, h2, h3.mono g, Al.mono g h4⟩
theorem Al.fp {F H : Hp} : ∀ {xs : List Sv} {vs : List V} {fp : List Addr}, Al K F H xs vs fp → ∀ a ∈ fp, F a = none ∧ ∃ o, H a = some o
  | [], _, _, h, a, m => by rw [h.2] at m; cases m
  | x :: xs, _, _, ⟨v, r, f1, f2, h1, h2, h3, h4⟩, a, m => by
    subst h2
    rcases List.mem_append.mp m with m | m
    · exact h3.fp a m
    · exact Al.fp h4 a m
def fNil : Env → M (List Sv) := fun _ => M.ok []
def fCons (f : Env → M Sv) (g : Env → M (List Sv)) : Env → M (List Sv) := fun env => bd (f env) fun x => bd (g env) fun xs => M.ok (x :: xs)
theorem tA.out {f : Env → M (List Sv)} {F0 H0 F H : Hp} {σ : St} {env : Env} {Q : List V → Hp → Prop} (s : SR K F0 H0 F H σ env) (o : Out (f env) (fun xs => ∀ vs F' H' fp, Gr F H F' H' → Al K F' H' xs vs fp → fp.Nodup → (∀ a ∈ fp, H a = none) → Q vs H') (ExOk K F H W σ)) : tA K W f σ H Q := ⟨F0, H0, F, env, s, o⟩
theorem tAw.out {f : Env → M (List Sv)} {F0 H0 F H : Hp} {σ : St} {env : Env} {Q : List V → Hp → Prop} (s : SR K F0 H0 F H σ env) (o : Out (f env) (fun xs => ∀ vs F' H' fp, Gr F H F' H' → Al K F' H' xs vs fp → Q vs H') (ExOk K F H W σ)) : tAw K W f σ H Q := ⟨F0, H0, F, env, s, o⟩
theorem pd_nil : PA X [] (tA K W fNil) := PA.imp pa_nil fun σ H Q ⟨F0, H0, F, env, s, o⟩ => by
  have o : Out (fNil env) (fun xs => ∀ vs F' H' fp, Gr F H F' H' → Al K F' H' xs vs fp → fp.Nodup → (∀ a ∈ fp, H a = none) → Q vs H') (ExOk K F H W σ) := o
  exact o.ok rfl [] F H [] (Gr.refl s.fh) ⟨rfl, rfl⟩ List.nodup_nil fun _ m => by cases m
theorem pd_nilw : PA X [] (tAw K W fNil) := PA.imp pa_nil fun σ H Q ⟨F0, H0, F, env, s, o⟩ => by
  have o : Out (fNil env) (fun xs => ∀ vs F' H' fp, Gr F H F' H' → Al K F' H' xs vs fp → Q vs H') (ExOk K F H W σ) := o
  exact o.ok rfl [] F H [] (Gr.refl s.fh) ⟨rfl, rfl⟩
theorem pd_cons {es : List Expr} {gs : Env → M (List Sv)} (ha : PE X a (tD K W f)) (hr : PA X es (tA K W gs)) (hs : starEach (a :: es) X.env = (false, eval a X.env) :: starEach es X.env := by rfl) : PA X (a :: es) (tA K W (fCons f gs)) := PA.imp (pa_cons ha hr hs) fun σ H Q ⟨F0, H0, F, env, s, o⟩ => by
  have o : Out (fCons f gs env) (fun xs => ∀ vs F' H' fp, Gr F H F' H' → Al K F' H' xs vs fp → fp.Nodup → (∀ a ∈ fp, H a = none) → Q vs H') (ExOk K F H W σ) := o
  refine tD.out s (Out.imp o.bd (fun x ox => ?_) fun _ k => k)
  intro v1 F1 H1 fp g1 w1 nd1 nw1
  refine tA.out (s.on g1) (Out.imp ox.bd (fun xs oxs => ?_) fun _ k => k.on g1)
  intro vs F2 H2 fq g2 w2 nd2 nw2
  refine oxs.ok rfl (v1 :: vs) F2 H2 (fp ++ fq) (g1.trans g2) ⟨v1, vs, fp, fq, rfl, rfl, w1.mono g2, w2⟩ ?_ fun a m => ?_
  · rw [List.nodup_append]
    refine ⟨nd1, nd2, fun a ha b hb z => ?_⟩
    subst z
    obtain ⟨_, o', ho⟩ := w1.fp a ha
    rw [nw2 a hb] at ho; cases ho
  · rcases List.mem_append.mp m with m | m
    · exact nw1 a m
    · exact g1.hh.back (nw2 a m)
theorem pd_consw {es : List Expr} {gs : Env → M (List Sv)} (ha : PE X a (tW K W f)) (hr : PA X es (tAw K W gs)) (hs : starEach (a :: es) X.env = (false, eval a X.env) :: starEach es X.env := by rfl) : PA X (a :: es) (tAw K W (fCons f gs)) := PA.imp (pa_cons ha hr hs) fun σ H Q ⟨F0, H0, F, env, s, o⟩ => by
  have o : Out (fCons f gs env) (fun xs => ∀ vs F' H' fp, Gr F H F' H' → Al K F' H' xs vs fp → Q vs H') (ExOk K F H W σ) := o
  refine tW.out s (Out.imp o.bd (fun x ox => ?_) fun _ k => k)
  intro v1 F1 H1 fp g1 w1
  refine tAw.out (s.on g1) (Out.imp ox.bd (fun xs oxs => ?_) fun _ k => k.on g1)
  intro vs F2 H2 fq g2 w2
  exact oxs.ok rfl (v1 :: vs) F2 H2 (fp ++ fq) (g1.trans g2) ⟨v1, vs, fp, fq, rfl, rfl, w1.mono g2, w2⟩

/-! ### displays -/
theorem Al.len {F H : Hp} : ∀ {xs : List Sv} {vs : List V} {fp : List Addr}, Al K F H xs vs fp → vs.length = xs.length
  | [], _, _, h => by rw [h.1]; rfl
  | x :: xs, _, _, ⟨v, r, f1, f2, h1, h2, h3, h4⟩ => by rw [h1, List.length_cons, List.length_cons, Al.len h4]
theorem Al.owl {F H : Hp} {n : Nat} : ∀ {xs : List Sv} {vs : List V} {fp : List Addr}, Al K F H xs vs fp → (xs.all fun x => x.1 == n) = true → OwL (Ow K F H n) (xs.map (·.2)) vs fp
  | [], _, _, h, _ => h
  | x :: xs, _, _, ⟨v, r, f1, f2, h1, h2, h3, h4⟩, q => by
    rw [List.all_cons, Bool.and_eq_true] at q
    have e : x.1 = n := beq_iff_eq.mp q.1
    rw [e] at h3
    exact ⟨v, r, f1, f2, h1, h2, h3, Al.owl h4 q.2⟩
def oLst (n : Nat) (xs : List Sv) : Option Sv := if (xs.all fun x => x.1 == n) = true ∧ xs.length ≤ sizeLine then some (n + 1, .lst (xs.map (·.2))) else none
def oTup (xs : List Sv) : Option Sv := if (xs.all fun x => x.1 == 0) = true ∧ xs.length ≤ sizeLine then some (0, .tup (xs.map (·.2))) else none
def fLst (n : Nat) (f : Env → M (List Sv)) : Env → M Sv := fun env => bd (f env) fun xs => lf (oLst n xs)
def fTup (f : Env → M (List Sv)) : Env → M Sv := fun env => bd (f env) fun xs => lf (oTup xs)
theorem pd_lst {es : List Expr} {gs : Env → M (List Sv)} (n : Nat) (ha : PA X es (tA K W gs)) : PE X (.List es pos) (tD K W (fLst n gs)) := PE.imp (pe_lst ha) fun σ H Q ⟨F0, H0, F, env, s, o⟩ => by
  have o : Out (fLst n gs env) (EvOk K F H Q) (ExOk K F H W σ) := o
  refine tA.out s (Out.imp o.bd (fun xs ox => ?_) fun _ k => k)
  intro vs F1 H1 fp g1 w1 nd nw
  obtain ⟨z, ez, kz⟩ := ox.lf
  unfold oLst at ez
  by_cases c : (xs.all fun x => x.1 == n) = true ∧ xs.length ≤ sizeLine
  · rw [if_pos c] at ez
    cases ez
    refine ⟨by rw [w1.len]; exact c.2, fun p hp => ?_⟩
    refine kz (.ref p) F1 (upd H1 p (.lst vs)) (p :: fp) (g1.trans (Gr.own g1.fh hp)) ⟨p, _, fp, rfl, g1.fh.back hp, upd_same, rfl, (w1.mono (Gr.own g1.fh hp)).owl c.1⟩ ?_ fun a m => ?_
    · rw [List.nodup_cons]
      refine ⟨fun m => ?_, nd⟩
      obtain ⟨_, o', ho⟩ := w1.fp p m
      rw [hp] at ho; cases ho
    · rcases List.mem_cons.mp m with m | m
      · rw [m]; exact g1.hh.back hp
      · exact nw a m
  · rw [if_neg c] at ez; cases ez
theorem pd_tup {es : List Expr} {x1} {gs : Env → M (List Sv)} (ha : PA X es (tA K W gs)) : PE X (.Tuple es x1 pos) (tD K W (fTup gs)) := PE.imp (pe_tup ha) fun σ H Q ⟨F0, H0, F, env, s, o⟩ => by
  have o : Out (fTup gs env) (EvOk K F H Q) (ExOk K F H W σ) := o
  refine tA.out s (Out.imp o.bd (fun xs ox => ?_) fun _ k => k)
  intro vs F1 H1 fp g1 w1 nd nw
  obtain ⟨z, ez, kz⟩ := ox.lf
  unfold oTup at ez
  by_cases c : (xs.all fun x => x.1 == 0) = true ∧ xs.length ≤ sizeLine
  · rw [if_pos c] at ez
    cases ez
    refine ⟨by rw [w1.len]; exact c.2, fun p hp => ?_⟩
    exact (kz.on g1).newT g1.fh (w1.owl c.1).one.2 hp
  · rw [if_neg c] at ez; cases ez

/-! ### subscripts -/
theorem RpL.atI {F : Hp} {ds : List D} {vs : List V} {i : Int} {d : D} (h : RpL K F ds vs) (e : atI ds i = some d) : ∃ v, L2.atI vs i = some v ∧ Rp K F d v := by
  unfold L2.atI at e ⊢
  rw [← h.len]
  cases q : ixN ds.length i with
  | none => rw [q] at e; cases e
  | some j =>
    rw [q, Option.bind_some] at e
    obtain ⟨v, e1, e2⟩ := h.get e
    exact ⟨v, e1, e2⟩
def oIx : Sv → Sv → Option Sv := fun p q => match q.2 with
  | .int i => match seqOf p with
    | some ds => (atI ds i).map fun d => ((0, d) : Sv)
    | none => match p.2 with
      | .str x => if x.length ≤ sizeLine then (atI x.cps.toList i).map fun c => ((0, .str ⟨#[c]⟩) : Sv) else none
      | _ => none
  | _ => none
theorem vIx : VR2 K (rIx K) oIx := by
  intro F H x y p q fp fq z Q e w1 w2 h k
  obtain ⟨m, d'⟩ := q
  cases d' <;> first | (cases h; done) | skip
  rename_i i
  have ey := w2.int
  unfold oIx at h
  dsimp only at h
  cases s : seqOf p with
  | some ds =>
    rw [s] at h
    dsimp only at h
    cases q : atI ds i with
    | none => rw [q] at h; cases h
    | some d =>
      rw [q] at h
      cases h
      obtain ⟨a, vs, rfl, h2, h3⟩ := w1.seq e s
      obtain ⟨v, e1, e2⟩ := h3.atI q
      rcases h2 with h2 | h2
      · exact .inl ⟨a, vs, i, v, rfl, ey, h2, e1, k.fl e e2⟩
      · exact .inr (.inl ⟨a, vs, i, v, rfl, ey, h2, e1, k.fl e e2⟩)
  | none =>
    rw [s] at h
    dsimp only at h
    obtain ⟨n, d⟩ := p
    cases d <;> first | (cases h; done) | skip
    rename_i x
    dsimp only at h
    by_cases c : x.length ≤ sizeLine
    · rw [if_pos c] at h
      cases q : atI x.cps.toList i with
      | none => rw [q] at h; cases h
      | some u =>
        rw [q] at h
        cases h
        exact .inr (.inr ⟨x, i, u, w1.str, ey, c, q, k.fl e rfl⟩)
    · rw [if_neg c] at h; cases h
theorem pd_ix (ha : PE X a (tW X.K W f)) (hb : PE X b (tW X.K W g)) (hs : PlainIx b) : PE X (.Subscript a b pos) (tD X.K W (f2 oIx f g)) := PE.imp (pe_ix ix_seq ha hb hs) fun _ _ _ t => t2_of vIx t
end
end DP
/-! DP: calls of built-ins by values; what a loop or a comprehension walks. -/
namespace DP
open PySem L2
section
variable {X : Cx} {K : Fg} {W : WX} {a b c : Expr} {es : List Expr} {pos : Pos} {f g h : Env → M Sv} {gs : Env → M (List Sv)}

/-! ### calls of built-ins -/
def VRC (K : Fg) (r : List V → Hp → VK → Prop) (op : List Sv → Option Sv) : Prop := ∀ (F H : Hp) (vs : List V) (xs : List Sv) (fp : List Addr) (z : Sv) (Q : VK), Ex F H → Al K F H xs vs fp → op xs = some z → EvOk K F H Q z → r vs H Q
def fC (op : List Sv → Option Sv) (f : Env → M (List Sv)) : Env → M Sv := fun env => bd (f env) fun xs => lf (op xs)
theorem tC_of {r : List V → Hp → VK → Prop} {op : List Sv → Option Sv} (v : VRC K r op) {σ : St} {H : Hp} {Q : VK} (t : tD K W (fC op gs) σ H Q) : tCB r (tAw K W gs) σ H Q := by
  obtain ⟨F0, H0, F, env, s, o⟩ := t
  have o : Out (fC op gs env) (EvOk K F H Q) (ExOk K F H W σ) := o
  refine tAw.out s (Out.imp o.bd (fun xs ox => ?_) fun _ k => k)
  intro vs F1 H1 fp g1 w1
  obtain ⟨z, ez, kz⟩ := ox.lf
  exact v F1 H1 vs xs fp z Q g1.fh w1 ez (kz.on g1)
theorem pd_callB {x : Str} {p : Pos} {id : String} {r : List V → Hp → VK → Prop} {op : List Sv → Option Sv} (hc : CallR X (.builtin id) r) (v : VRC K r op) (hg : Gl X x) (hm : X.mg x = none) (hv : bootBuiltins x = some (.builtin id)) (ha : PA X (a :: es) (tAw K W gs)) (hn : x ≠ "__name__" := by decide) (hdb : (x == ("__debug__" : Str)) = false := by decide)
    (he : starEach (a :: es) X.env = (false, eval a X.env) :: starEach es X.env := by rfl) (hpl : (backTo pos (starEach es X.env)).any (·.1) = false := by rfl) : PE X (.Call (.Name x p) (a :: es) [] pos) (tD K W (fC op gs)) :=
  PE.imp (pe_callB hc hg hm hv ha hn hdb he hpl) fun _ _ _ t => tC_of v t
theorem pd_callTy {x : Str} {p : Pos} {T : String} {r : List V → Hp → VK → Prop} {op : List Sv → Option Sv} (hc : CallR X (.type T) r) (v : VRC K r op) (hg : Gl X x) (hm : X.mg x = none) (hv : bootBuiltins x = some (.type T)) (ha : PA X (a :: es) (tAw K W gs)) (hn : x ≠ "__name__" := by decide) (hdb : (x == ("__debug__" : Str)) = false := by decide)
    (he : starEach (a :: es) X.env = (false, eval a X.env) :: starEach es X.env := by rfl) (hpl : (backTo pos (starEach es X.env)).any (·.1) = false := by rfl) : PE X (.Call (.Name x p) (a :: es) [] pos) (tD K W (fC op gs)) :=
  PE.imp (pe_callTy hc hg hm hv ha hn hdb he hpl) fun _ _ _ t => tC_of v t
/-- one argument -/
theorem Al.one {F H : Hp} {x : Sv} {vs : List V} {fp : List Addr} (h : Al K F H [x] vs fp) : ∃ v, vs = [v] ∧ Ow K F H x.1 x.2 v fp := by
  obtain ⟨v, r, f1, f2, h1, h2, h3, h4⟩ := h
  obtain ⟨e1, e2⟩ := h4
  subst e1 e2
  exact ⟨v, h1, by rw [h2, List.append_nil]; exact h3⟩
theorem Al.two {F H : Hp} {x y : Sv} {vs : List V} {fp : List Addr} (h : Al K F H [x, y] vs fp) : ∃ v u f1 f2, vs = [v, u] ∧ Ow K F H x.1 x.2 v f1 ∧ Ow K F H y.1 y.2 u f2 := by
  obtain ⟨v, r, f1, f2, h1, h2, h3, h4⟩ := h
  obtain ⟨u, e1, h5⟩ := Al.one h4
  subst e1
  exact ⟨v, u, f1, f2, h1, h3, h5⟩
def c1 (op : Sv → Option Sv) : List Sv → Option Sv := fun xs => match xs with | [x] => op x | _ => none
def c2 (op : Sv → Sv → Option Sv) : List Sv → Option Sv := fun xs => match xs with | [x, y] => op x y | _ => none
theorem c1_some {op : Sv → Option Sv} {xs : List Sv} {z : Sv} (h : c1 op xs = some z) : ∃ x, xs = [x] ∧ op x = some z := by
  rcases xs with _ | ⟨x, _ | ⟨y, r⟩⟩
  · cases h
  · exact ⟨x, rfl, h⟩
  · cases h
theorem c2_some {op : Sv → Sv → Option Sv} {xs : List Sv} {z : Sv} (h : c2 op xs = some z) : ∃ x y, xs = [x, y] ∧ op x y = some z := by
  rcases xs with _ | ⟨x, _ | ⟨y, _ | ⟨w, r⟩⟩⟩
  · cases h
  · cases h
  · exact ⟨x, y, rfl, h⟩
  · cases h
theorem vC1 {r : List V → Hp → VK → Prop} {op : Sv → Option Sv} (q : ∀ (F H : Hp) (v : V) (n : Nat) (d : D) (fp : List Addr) (z : Sv) (Q : VK), Ex F H → Ow K F H n d v fp → op (n, d) = some z → EvOk K F H Q z → r [v] H Q) : VRC K r (c1 op) := by
  intro F H vs xs fp z Q e w h k
  obtain ⟨⟨n, d⟩, e1, h2⟩ := c1_some h
  subst e1
  obtain ⟨v, e2, w2⟩ := w.one
  subst e2
  exact q F H v n d fp z Q e w2 h2 k
/-- len -/
def oLen : Sv → Option Sv := fun p => match p with
  | (_, .str x) => if x.length ≤ sizeLine then some (0, .int x.length) else none
  | (_, .tup x) => some (0, .int x.length)
  | (_, .lst x) => some (0, .int x.length)
  | (_, .sl x) => some (0, .int x.length)
  | (n, .dK k x) => if n ≤ 1 then some (0, .int x.length) else none
  | (n, .dT k x) => if n ≤ 1 then some (0, .int x.length) else none
  | _ => none
def rLen' (K : Fg) : List V → Hp → VK → Prop := fun xs H Q => (∃ x n, xs = [x] ∧ LenV K x H n ∧ Q (.int n) H) ∨ (∃ a kvs, xs = [V.ref a] ∧ H a = some (.dK kvs) ∧ Q (.int kvs.length) H) ∨ rLenT xs H Q
theorem call_len' : CallR X (.builtin "len") (rLen' X.K) := call_len.or (call_lenD.or call_len_dT)
theorem vLen : VRC K (rLen' K) (c1 oLen) := by
  refine vC1 fun F H v n d fp z Q e w h k => ?_
  cases d <;> first | (cases h; done) | skip
  · rename_i x
    have h' : (if x.length ≤ sizeLine then some ((0, .int x.length) : Sv) else none) = some z := h
    by_cases c : x.length ≤ sizeLine
    · rw [if_pos c] at h'; cases h'
      exact .inl ⟨v, x.length, rfl, by rw [w.str]; exact ⟨c, rfl⟩, k.fl e rfl⟩
    · rw [if_neg c] at h'; cases h'
  · cases h
    obtain ⟨_, a, vs, rfl, h2, h3⟩ := w.tup e
    exact .inl ⟨_, vs.length, rfl, .inr ⟨vs, SqT.of h2, rfl⟩, by rw [← h3.len]; exact k.fl e rfl⟩
  · cases h
    obtain ⟨a, vs, rfl, h2, h3⟩ := w.lstn e
    exact .inl ⟨_, vs.length, rfl, .inl ⟨vs, SqL.of h2, rfl⟩, by rw [← h3]; exact k.fl e rfl⟩
  · cases h
    obtain ⟨_, a, vs, rfl, h2, h3⟩ := w.sl e
    exact .inl ⟨_, vs.length, rfl, .inl ⟨vs, h2, rfl⟩, by rw [← h3.len]; exact k.fl e rfl⟩
  · rename_i ks x
    have h' : (if n ≤ 1 then some ((0, .int x.length) : Sv) else none) = some z := h
    by_cases c : n ≤ 1
    · rw [if_pos c] at h'; cases h'
      obtain ⟨a, ws, rfl, h2, h3, h4⟩ := w.dK e c
      have l := h4.len
      rw [List.length_map] at l
      exact .inr (.inl ⟨a, ws, rfl, h2, by rw [← l]; exact k.fl e rfl⟩)
    · rw [if_neg c] at h'; cases h'
  · rename_i ks x
    have h' : (if n ≤ 1 then some ((0, .int x.length) : Sv) else none) = some z := h
    by_cases c : n ≤ 1
    · rw [if_pos c] at h'; cases h'
      obtain ⟨a, ws, rfl, h2, h3, h4⟩ := w.dT e c
      have l := h4.len
      rw [List.length_map] at l
      exact .inr (.inr ⟨a, ws, rfl, h2, by rw [← l]; exact k.fl e rfl⟩)
    · rw [if_neg c] at h'; cases h'
/-- str of an int -/
def oStr : Sv → Option Sv := fun p => match p.2 with | .int i => if i.natAbs.log2 < 1920 then some (0, .str (toString i)) else none | _ => none
theorem vStr : VRC K (fun xs H Q => ∃ i, xs = [.int i] ∧ i.natAbs.log2 < 1920 ∧ Q (.str (toString i)) H) (c1 oStr) := by
  refine vC1 fun F H v n d fp z Q e w h k => ?_
  cases d <;> first | (cases h; done) | skip
  rename_i i
  have h' : (if i.natAbs.log2 < 1920 then some ((0, .str (toString i)) : Sv) else none) = some z := h
  by_cases c : i.natAbs.log2 < 1920
  · rw [if_pos c] at h'; cases h'
    exact ⟨i, by rw [w.int], c, k.fl e rfl⟩
  · rw [if_neg c] at h'; cases h'
/-- list(xs): a new list -/
def oList : Sv → Option Sv := fun p => (seqOf p).map fun ds => ((1, .lst ds) : Sv)
theorem vList : VRC K (fun xs H Q => ∃ p ys, xs = [.ref p] ∧ (SqL K H p ys ∨ SqT K H p ys) ∧ ∀ l, H l = none → Q (.ref l) (upd H l (.lst ys))) (c1 oList) := by
  refine vC1 fun F H v n d fp z Q e w h k => ?_
  unfold oList at h
  cases q : seqOf (n, d) with
  | none => rw [q] at h; cases h
  | some ds =>
    rw [q] at h; cases h
    obtain ⟨a, vs, rfl, h2, h3⟩ := w.seq e q
    exact ⟨a, vs, rfl, h2, fun l hl => k.newL e h3 hl⟩
/-- all of a list of truths -/
def bls : List D → Option (List Bool)
  | [] => some []
  | .bl i :: r => (bls r).map (i :: ·)
  | _ :: _ => none
theorem bls_map : ∀ (ns : List Bool), bls (ns.map D.bl) = some ns
  | [] => rfl
  | n :: ns => by show (bls (ns.map D.bl)).map (n :: ·) = _; rw [bls_map ns]; rfl
theorem bls_some : ∀ {ds : List D} {ns : List Bool}, bls ds = some ns → ds = ns.map D.bl
  | [], ns, h => by cases h; rfl
  | d :: r, ns, h => by
    cases d <;> first | (cases h; done) | skip
    rename_i i
    have h' : (bls r).map (i :: ·) = some ns := h
    cases q : bls r with
    | none => rw [q] at h'; cases h'
    | some m => rw [q] at h'; cases h'; rw [List.map_cons, bls_some q]
theorem RpL.blsV {F : Hp} : ∀ {ns : List Bool} {vs : List V}, RpL K F (ns.map D.bl) vs → vs = ns.map V.bl
  | [], _, h => h
  | n :: ns, _, ⟨v, r, h1, h2, h3⟩ => by rw [h1, (show v = .bl n from h2), RpL.blsV h3]; rfl
def oAll : Sv → Option Sv := fun p => match p with
  | (n, .lst x) => if n ≤ 1 then (bls x).map fun bs => ((0, .bl (bs.all id)) : Sv) else none
  | _ => none
theorem vAll : VRC K (rAll K) (c1 oAll) := by
  refine vC1 fun F H v n d fp z Q e w h k => ?_
  cases d <;> first | (cases h; done) | skip
  rename_i x
  have h' : (if n ≤ 1 then (bls x).map fun bs => ((0, .bl (bs.all id)) : Sv) else none) = some z := h
  by_cases c : n ≤ 1
  · rw [if_pos c] at h'
    cases q : bls x with
    | none => rw [q] at h'; cases h'
    | some bs =>
      rw [q] at h'; cases h'
      obtain ⟨a, vs, rfl, h2, h3⟩ := w.lst e c
      rw [bls_some q] at h3
      rw [h3.blsV] at h2
      exact ⟨a, bs, rfl, SqL.of h2, k.fl e rfl⟩
  · rw [if_neg c] at h'; cases h'
/-- sum of a list of ints -/
def oSum : Sv → Option Sv := fun p => match p with
  | (n, .lst x) => if n ≤ 1 then (intsOf x).map fun bs => ((0, .int bs.sum) : Sv) else none
  | _ => none
theorem vSum : VRC K (rSum K) (c1 oSum) := by
  refine vC1 fun F H v n d fp z Q e w h k => ?_
  cases d <;> first | (cases h; done) | skip
  rename_i x
  have h' : (if n ≤ 1 then (intsOf x).map fun bs => ((0, .int bs.sum) : Sv) else none) = some z := h
  by_cases c : n ≤ 1
  · rw [if_pos c] at h'
    cases q : intsOf x with
    | none => rw [q] at h'; cases h'
    | some bs =>
      rw [q] at h'; cases h'
      obtain ⟨a, vs, rfl, h2, h3⟩ := w.lst e c
      rw [intsOf_some q] at h3
      rw [h3.intsV] at h2
      exact ⟨a, bs, rfl, SqL.of h2, k.fl e rfl⟩
  · rw [if_neg c] at h'; cases h'
/-- isinstance(x, T), T a built-in type -/
def tyD : D → Option String
  | .non => some "NoneType" | .bl _ => some "bool" | .int _ => some "int" | .str _ => some "str" | .tup _ => some "tuple" | .lst _ => some "list" | .dK _ _ => some "dict" | .dT _ _ => some "dict" | _ => none
theorem Rp.ty {F H : Hp} {d : D} {v : V} {t : String} (e : Ex F H) (h : Rp K F d v) (q : tyD d = some t) : TyX K H v (.type t) := by
  cases d <;> first | (cases q; done) | skip
  · cases q; cases h; exact .base .non
  · cases q; cases h; exact .base (.bl _)
  · cases q; cases h; exact .base (.int _)
  · cases q; cases h; exact .base (.str _)
  · cases q; obtain ⟨a, vs, rfl, h2, _⟩ := h; exact .base (.tup (e _ _ h2))
  · cases q; obtain ⟨a, vs, rfl, h2, _⟩ := h; exact .base (.lst (e _ _ h2))
  · cases q; obtain ⟨a, vs, rfl, h2, _⟩ := h; exact .base (.dK (e _ _ h2))
  · cases q; obtain ⟨a, vs, rfl, h2, _⟩ := h; exact .base (.dT (e _ _ h2))
def oIsi (T : String) : Sv → Option Sv := fun p => (tyD p.2).bind fun a => (kitB a T).map fun r => ((0, .bl r) : Sv)
def fIsi (T : String) (f : Env → M Sv) : Env → M Sv := f1 (oIsi T) f
theorem pd_isi {p q : Pos} {T : String} {x : Str} (ha : PE X a (tW X.K W f)) (hg : Gl X "isinstance") (hm : X.mg "isinstance" = none) (hgT : Gl X x) (hmT : X.mg x = none) (hvT : bootBuiltins x = some (.type T)) (hn : x ≠ "__name__" := by decide) (hdb : (x == ("__debug__" : Str)) = false := by decide)
    (he : starEach [a, .Name x q] X.env = (false, eval a X.env) :: starEach [.Name x q] X.env := by rfl) (hpl : (backTo pos (starEach [.Name x q] X.env)).any (·.1) = false := by rfl) (hs : starEach [.Name x q] X.env = (false, eval (.Name x q) X.env) :: starEach [] X.env := by rfl) :
    PE X (.Call (.Name "isinstance" p) [a, .Name x q] [] pos) (tD X.K W (fIsi T f)) :=
  PE.imp (pe_callB call_isi hg hm (by decide +kernel) (pa_cons ha (pa_cons (pe_bltn (v := .ty T) hgT hmT hvT rfl hn hdb) pa_nil hs) he) (by decide) (by decide) he hpl) fun σ H Q ⟨F0, H0, F, env, s, o⟩ => by
    have o : Out (f1 (oIsi T) f env) (EvOk X.K F H Q) (ExOk X.K F H W σ) := o
    refine tW.out s (Out.imp o.bd (fun y oy => ?_) fun _ k => k)
    intro v F1 H1 fp g1 w1
    obtain ⟨z, ez, kz⟩ := oy.lf
    unfold oIsi at ez
    cases q1 : tyD y.2 with
    | none => rw [q1] at ez; cases ez
    | some t =>
      rw [q1, Option.bind_some] at ez
      cases q2 : kitB t T with
      | none => rw [q2] at ez; cases ez
      | some r =>
        rw [q2] at ez; cases ez
        have r1 : Rp X.K (frz F1 H1 fp) y.2 v := Ow.frozen (frz_ex fun a m => (w1.fp a m).1) (fun a m => frz_in m) w1
        exact ⟨v, .ty T, .type t, .type T, r, rfl, .ty T, r1.ty (frz_fh g1.fh) q1, kit_ty q2, kz.z g1 rfl⟩

/-! ### methods of built-ins -/
def VRM (K : Fg) (T : String) (r : V → List V → Hp → VK → Prop) (op : Sv → List Sv → Option Sv) : Prop := ∀ (F H : Hp) (v : V) (p : Sv) (fp : List Addr) (vs : List V) (xs : List Sv) (fq : List Addr) (z : Sv) (Q : VK), Ex F H → Ow K F H p.1 p.2 v fp → Al K F H xs vs fq → op p xs = some z → EvOk K F H Q z → r v vs H Q
/-- the receiver's type -/
def tyM : Sv → Option String := fun p => match p.2 with | .str _ => some "str" | .lst _ => some "list" | _ => none
theorem tyV_of {F H : Hp} {p : Sv} {v : V} {fp : List Addr} {T : String} (e : Ex F H) (w : Ow K F H p.1 p.2 v fp) (h : tyM p = some T) : tyV K T v H := by
  obtain ⟨n, d⟩ := p
  cases d <;> first | (cases h; done) | skip
  · cases h
    rw [w.str]
    exact rfl
  · cases h
    obtain ⟨a, vs, rfl, h2, _⟩ := w.lstn e
    exact .inl ⟨rfl, _, SqL.of h2⟩
def fM (T : String) (op : Sv → List Sv → Option Sv) (f : Env → M Sv) (gs : Env → M (List Sv)) : Env → M Sv := fun env => bd (f env) fun x => if tyM x = some T then bd (gs env) fun xs => lf (op x xs) else M.no
theorem Out.iff {α : Type} {C : Prop} [Decidable C] {m : M α} {A : α → Prop} {B : XD → Prop} (o : Out (if C then m else M.no) A B) : C ∧ Out m A B := by
  by_cases c : C
  · rw [if_pos c] at o; exact ⟨c, o⟩
  · rw [if_neg c] at o
    rcases o with ⟨_, e, _⟩ | ⟨_, e, _⟩ <;> cases e
theorem tM_of {T : String} {r : V → List V → Hp → VK → Prop} {op : Sv → List Sv → Option Sv} (v : VRM K T r op) {σ : St} {H : Hp} {Q : VK} (t : tD K W (fM T op f gs) σ H Q) : tBM K T r (tW K W f) (tAw K W gs) σ H Q := by
  obtain ⟨F0, H0, F, env, s, o⟩ := t
  have o : Out (fM T op f gs env) (EvOk K F H Q) (ExOk K F H W σ) := o
  refine tW.out s (Out.imp o.bd (fun x ox => ?_) fun _ k => k)
  intro v1 F1 H1 fp g1 w1
  obtain ⟨ht, oy⟩ := ox.iff
  refine ⟨tyV_of g1.fh w1 ht, tAw.out (s.on g1) (Out.imp oy.bd (fun xs oxs => ?_) fun _ k => k.on g1)⟩
  intro vs F2 H2 fq g2 w2
  obtain ⟨z, ez, kz⟩ := oxs.lf
  exact v F2 H2 v1 x fp vs xs fq z Q g2.fh (w1.mono g2) w2 ez (kz.on (g1.trans g2))
theorem pd_m {T : String} {r : V → List V → Hp → VK → Prop} {op : Sv → List Sv → Option Sv} {e : Expr} (v : VRM K T r op) (p : PE X e (tBM K T r (tW K W f) (tAw K W gs))) : PE X e (tD K W (fM T op f gs)) := PE.imp p fun _ _ _ t => tM_of v t
def fM0 (T : String) (op : Sv → List Sv → Option Sv) (f : Env → M Sv) : Env → M Sv := fun env => bd (f env) fun x => if tyM x = some T then lf (op x []) else M.no
theorem pd_m0 {T : String} {r : V → List V → Hp → VK → Prop} {op : Sv → List Sv → Option Sv} {e : Expr} (v : VRM K T r op) (p : PE X e (tBM0 K T r (tW K W f))) : PE X e (tD K W (fM0 T op f)) := PE.imp p fun σ H Q ⟨F0, H0, F, env, s, o⟩ => by
  have o : Out (fM0 T op f env) (EvOk K F H Q) (ExOk K F H W σ) := o
  refine tW.out s (Out.imp o.bd (fun x ox => ?_) fun _ k => k)
  intro v1 F1 H1 fp g1 w1
  obtain ⟨ht, oy⟩ := ox.iff
  obtain ⟨z, ez, kz⟩ := oy.lf
  exact ⟨tyV_of g1.fh w1 ht, v F1 H1 v1 x fp [] [] [] z Q g1.fh w1 ⟨rfl, rfl⟩ ez (kz.on g1)⟩

/-! ### slices -/
def VRS (K : Fg) (r : V → Option Int → Option Int → Hp → VK → Prop) (op : Sv → Option Int → Option Int → Option Sv) : Prop := ∀ (F H : Hp) (v : V) (p : Sv) (fp : List Addr) (lo hi : Option Int) (z : Sv) (Q : VK), Ex F H → Ow K F H p.1 p.2 v fp → op p lo hi = some z → EvOk K F H Q z → r v lo hi H Q
def tO (K : Fg) (W : WX) (f : Env → M (Option Int)) : TO := fun σ H Q => ∃ F0 H0 F env, SR K F0 H0 F H σ env ∧ Out (f env) (fun o => ∀ F' H', Gr F H F' H' → Q o H') (ExOk K F H W σ)
def asI (x : Sv) : M (Option Int) := match x.2 with | .int k => M.ok (some k) | _ => none
def fO0 : Env → M (Option Int) := fun _ => M.ok none
def fO1 (f : Env → M Sv) : Env → M (Option Int) := fun env => bd (f env) asI
theorem po_n : PO X none (tO K W fO0) := ⟨fun pins s σ H Q I h => by
  obtain ⟨F0, H0, F, env, sr, o⟩ := h
  exact po_none.run pins s σ H Q I (o.ok rfl F H (Gr.refl sr.fh))⟩
theorem po_s (he : PE X a (tW K W f)) : PO X (some a) (tO K W (fO1 f)) := ⟨fun pins s σ H Q I h => (po_some he).run pins s σ H Q I (by
  obtain ⟨F0, H0, F, env, sr, o⟩ := h
  refine tW.out sr (Out.imp (Out.bd (show Out (bd (f env) asI) _ _ from o)) (fun x ox => ?_) fun _ k => k)
  intro v F1 H1 fp g1 w1
  obtain ⟨n, d⟩ := x
  cases d <;> first
    | (rcases ox with ⟨_, e, _⟩ | ⟨_, e, _⟩ <;> cases e; done)
    | exact ⟨_, w1.int, ox.ok rfl F1 H1 g1⟩)⟩
def fSl (op : Sv → Option Int → Option Int → Option Sv) (f : Env → M Sv) (l u : Env → M (Option Int)) : Env → M Sv := fun env => bd (f env) fun x => bd (l env) fun i => bd (u env) fun j => lf (op x i j)
theorem tO.out {f : Env → M (Option Int)} {F0 H0 F H : Hp} {σ : St} {env : Env} {Q : Option Int → Hp → Prop} (s : SR K F0 H0 F H σ env) (o : Out (f env) (fun o => ∀ F' H', Gr F H F' H' → Q o H') (ExOk K F H W σ)) : tO K W f σ H Q := ⟨F0, H0, F, env, s, o⟩
theorem pd_sl {lo hi : Option Expr} {l u : Env → M (Option Int)} {r : V → Option Int → Option Int → Hp → VK → Prop} {op : Sv → Option Int → Option Int → Option Sv} {p2 : Pos} (hr : SlR X r) (v : VRS K r op) (he : PE X a (tW K W f)) (hl : PO X lo (tO K W l)) (hu : PO X hi (tO K W u)) :
    PE X (.Subscript a (.Slice lo hi none p2) pos) (tD K W (fSl op f l u)) := PE.imp (pe_slice hr he hl hu) fun σ H Q ⟨F0, H0, F, env, s, o⟩ => by
  have o : Out (fSl op f l u env) (EvOk K F H Q) (ExOk K F H W σ) := o
  refine tW.out s (Out.imp o.bd (fun x ox => ?_) fun _ k => k)
  intro v1 F1 H1 fp g1 w1
  refine tO.out (s.on g1) (Out.imp ox.bd (fun i oi F2 H2 g2 => ?_) fun _ k => k.on g1)
  have g12 := g1.trans g2
  refine tO.out (s.on g12) (Out.imp oi.bd (fun j oj F3 H3 g3 => ?_) fun _ k => k.on g12)
  obtain ⟨z, ez, kz⟩ := oj.lf
  exact v F3 H3 v1 x fp i j z Q g3.fh ((w1.mono g2).mono g3) ez (kz.on (g12.trans g3))
def cutD (xs : List D) (lo hi : Option Int) : List D := (xs.drop (HT.sIx xs.length 0 lo)).take (HT.sIx xs.length xs.length hi - HT.sIx xs.length 0 lo)
theorem RpL.cut {F : Hp} {ds : List D} {vs : List V} (h : RpL K F ds vs) (lo hi : Option Int) : RpL K F (cutD ds lo hi) (cutV vs lo hi) := by
  unfold cutD cutV
  rw [h.len]
  exact (h.drop _).take _
def oSlL : Sv → Option Int → Option Int → Option Sv := fun p lo hi => match p with
  | (n, .lst x) => if n ≤ 1 then some (1, .lst (cutD x lo hi)) else none
  | (_, .sl x) => some (1, .lst (cutD x lo hi))
  | _ => none
theorem vSlL : VRS K (rSlL K) oSlL := by
  intro F H v p fp lo hi z Q e w h k
  obtain ⟨n, d⟩ := p
  cases d <;> first | (cases h; done) | skip
  · rename_i x
    have h' : (if n ≤ 1 then some ((1, .lst (cutD x lo hi)) : Sv) else none) = some z := h
    by_cases c : n ≤ 1
    · rw [if_pos c] at h'; cases h'
      obtain ⟨a, vs, rfl, h2, h3⟩ := w.lst e c
      exact ⟨a, vs, rfl, SqL.of h2, fun q hq => k.newL e (h3.cut lo hi) hq⟩
    · rw [if_neg c] at h'; cases h'
  · cases h
    obtain ⟨_, a, vs, rfl, h2, h3⟩ := w.sl e
    exact ⟨a, vs, rfl, h2, fun q hq => k.newL e (h3.cut lo hi) hq⟩
end
end DP
/-! DP: methods of texts and lists; what is walked; comprehensions. -/
namespace DP
open PySem L2
section
variable {X : Cx} {K : Fg} {W : WX} {a b c : Expr} {es : List Expr} {pos : Pos} {f g h : Env → M Sv} {gs : Env → M (List Sv)}
/-- texts of a list -/
def txs : List D → Option (List Str)
  | [] => some []
  | .str i :: r => (txs r).map (i :: ·)
  | _ :: _ => none
theorem txs_map : ∀ (ns : List Str), txs (ns.map D.str) = some ns
  | [] => rfl
  | n :: ns => by show (txs (ns.map D.str)).map (n :: ·) = _; rw [txs_map ns]; rfl
theorem txs_some : ∀ {ds : List D} {ns : List Str}, txs ds = some ns → ds = ns.map D.str
  | [], ns, h => by cases h; rfl
  | d :: r, ns, h => by
    cases d <;> first | (cases h; done) | skip
    rename_i i
    have h' : (txs r).map (i :: ·) = some ns := h
    cases q : txs r with
    | none => rw [q] at h'; cases h'
    | some m => rw [q] at h'; cases h'; rw [List.map_cons, txs_some q]
theorem RpL.txsV {F : Hp} : ∀ {ns : List Str} {vs : List V}, RpL K F (ns.map D.str) vs → vs = ns.map V.str
  | [], _, h => h
  | n :: ns, _, ⟨v, r, h1, h2, h3⟩ => by rw [h1, (show v = .str n from h2), RpL.txsV h3]; rfl
theorem RpL.txsD {F : Hp} : ∀ (ns : List Str), RpL K F (ns.map D.str) (ns.map V.str)
  | [] => rfl
  | n :: ns => ⟨.str n, _, rfl, rfl, RpL.txsD ns⟩
def m1 (op : Sv → Sv → Option Sv) : Sv → List Sv → Option Sv := fun p xs => match xs with | [x] => op p x | _ => none
theorem vM1 {T : String} {r : V → List V → Hp → VK → Prop} {op : Sv → Sv → Option Sv} (q : ∀ (F H : Hp) (v u : V) (p y : Sv) (fp fq : List Addr) (z : Sv) (Q : VK), Ex F H → Ow K F H p.1 p.2 v fp → Ow K F H y.1 y.2 u fq → op p y = some z → EvOk K F H Q z → r v [u] H Q) : VRM K T r (m1 op) := by
  intro F H v p fp vs xs fq z Q e w ws h k
  rcases xs with _ | ⟨x, _ | ⟨y, r⟩⟩
  · cases h
  · obtain ⟨u, e1, w2⟩ := ws.one
    subst e1
    exact q F H v u p x fp fq z Q e w w2 h k
  · cases h
def oJoin : Sv → Sv → Option Sv := fun p q => match p.2 with
  | .str a => (seqOf q).bind fun ds => (txs ds).bind fun ys => if (ys.map (·.length)).sum + ys.length * a.length ≤ 16777216 then some (0, .str (Txt.join a ys)) else none
  | _ => none
theorem vJoin : VRM K "str" (fun x xs H Q => ∃ a p, ∃ ys : List Str, x = .str a ∧ xs = [.ref p] ∧ (SqL K H p (ys.map V.str) ∨ SqT K H p (ys.map V.str)) ∧
    (ys.map (·.length)).sum + ys.length * a.length ≤ 16777216 ∧ Q (.str (Txt.join a ys)) H) (m1 oJoin) := by
  refine vM1 fun F H v u p y fp fq z Q e w1 w2 h k => ?_
  obtain ⟨n, d⟩ := p
  cases d <;> first | (cases h; done) | skip
  rename_i a
  have h' : ((seqOf y).bind fun ds => (txs ds).bind fun ys => if (ys.map (·.length)).sum + ys.length * a.length ≤ 16777216 then some ((0, .str (Txt.join a ys)) : Sv) else none) = some z := h
  cases q1 : seqOf y with
  | none => rw [q1] at h'; cases h'
  | some ds =>
    rw [q1, Option.bind_some] at h'
    cases q2 : txs ds with
    | none => rw [q2] at h'; cases h'
    | some ys =>
      rw [q2, Option.bind_some] at h'
      by_cases c : (ys.map (·.length)).sum + ys.length * a.length ≤ 16777216
      · rw [if_pos c] at h'; cases h'
        obtain ⟨b, vs, rfl, h2, h3⟩ := w2.seq e q1
        rw [txs_some q2] at h3
        rw [h3.txsV] at h2
        exact ⟨a, b, ys, w1.str, rfl, h2, c, k.fl e rfl⟩
      · rw [if_neg c] at h'; cases h'
def oSplit : Sv → Sv → Option Sv := fun p q => match p.2, q.2 with
  | .str a, .str b => if (b.length == 0) = false ∧ a.length + 2 ≤ sizeLine then some (1, .lst ((Txt.split a b).map D.str)) else none
  | _, _ => none
theorem vSplit : VRM K "str" (fun x xs H Q => ∃ a b, x = .str a ∧ xs = [.str b] ∧ (b.length == 0) = false ∧ a.length + 2 ≤ sizeLine ∧ rNewStrs (Txt.split a b) H Q) (m1 oSplit) := by
  refine vM1 fun F H v u p y fp fq z Q e w1 w2 h k => ?_
  obtain ⟨n, d⟩ := p
  obtain ⟨m, d'⟩ := y
  cases d <;> first | (cases h; done) | skip
  cases d' <;> first | (cases h; done) | skip
  rename_i a b
  have h' : (if (b.length == 0) = false ∧ a.length + 2 ≤ sizeLine then some ((1, .lst ((Txt.split a b).map D.str)) : Sv) else none) = some z := h
  by_cases c : (b.length == 0) = false ∧ a.length + 2 ≤ sizeLine
  · rw [if_pos c] at h'; cases h'
    exact ⟨a, b, w1.str, by rw [w2.str], c.1, c.2, fun q hq => k.newL e (RpL.txsD _) hq⟩
  · rw [if_neg c] at h'; cases h'
def oSlS : Sv → Option Int → Option Int → Option Sv := fun p lo hi => match p.2 with
  | .str x => if x.length ≤ sizeLine then some (0, .str (cutS x lo hi)) else none
  | _ => none
theorem vSlS : VRS K rSlS oSlS := by
  intro F H v p fp lo hi z Q e w h k
  obtain ⟨n, d⟩ := p
  cases d <;> first | (cases h; done) | skip
  rename_i x
  have h' : (if x.length ≤ sizeLine then some ((0, .str (cutS x lo hi)) : Sv) else none) = some z := h
  by_cases c : x.length ≤ sizeLine
  · rw [if_pos c] at h'; cases h'
    exact ⟨x, w.str, c, k.fl e rfl⟩
  · rw [if_neg c] at h'; cases h'

/-! ### what is walked -/
/-- an iterator that yields what stands for ds, one by one -/
structure Wk (K : Fg) (F : Hp) (J : It) (ds : List D) : Prop where
  go : ∀ i F2 H2, Ex F F2 → Ex F2 H2 → i < ds.length → J.go i H2
  stop : ∀ i F2 H2, Ex F F2 → Ex F2 H2 → ds.length ≤ i → J.stop i H2
  yld : ∀ i F2 H2 x H3 d, Ex F F2 → Ex F2 H2 → ds[i]? = some d → J.yld i H2 x H3 → ∃ F3, Gr F2 H2 F3 H3 ∧ Rp K F3 d x
def tI (K : Fg) (W : WX) (f : Env → M (List D)) : TI := fun σ H R => ∃ F0 H0 F env, SR K F0 H0 F H σ env ∧ Out (f env) (fun ds => ∀ J F' H', Gr F H F' H' → Wk K F' J ds → R J H') (ExOk K F H W σ)
theorem Wk.lst {F : Hp} {l : Addr} {ds : List D} {vs : List V} (h : F l = some (.lst vs)) (r : RpL K F ds vs) : Wk K F (Itl K l) ds where
  go := fun i F2 H2 e1 e2 hi => by
    obtain ⟨v, hv, _⟩ := r.get (List.getElem?_eq_getElem hi)
    exact ⟨vs, v, SqL.of (e2 _ _ (e1 _ _ h)), hv⟩
  stop := fun i F2 H2 e1 e2 hi => ⟨vs, SqL.of (e2 _ _ (e1 _ _ h)), by rw [← r.len]; exact hi⟩
  yld := fun i F2 H2 x H3 d e1 e2 hd y => by
    obtain ⟨rfl, hx⟩ := y
    obtain ⟨v, hv, rv⟩ := r.get hd
    have z := hx vs (SqL.of (e2 _ _ (e1 _ _ h)))
    rw [hv] at z; cases z
    exact ⟨F2, Gr.refl e2, rv.mono e1⟩
theorem Wk.sl {F : Hp} {l : Addr} {ds : List D} {vs : List V} (h : SqL K F l vs) (r : RpL K F ds vs) : Wk K F (Itl K l) ds where
  go := fun i F2 H2 e1 e2 hi => by
    obtain ⟨v, hv, _⟩ := r.get (List.getElem?_eq_getElem hi)
    exact ⟨vs, v, e2.sqL (e1.sqL h), hv⟩
  stop := fun i F2 H2 e1 e2 hi => ⟨vs, e2.sqL (e1.sqL h), by rw [← r.len]; exact hi⟩
  yld := fun i F2 H2 x H3 d e1 e2 hd y => by
    obtain ⟨rfl, hx⟩ := y
    obtain ⟨v, hv, rv⟩ := r.get hd
    have z := hx vs (e2.sqL (e1.sqL h))
    rw [hv] at z; cases z
    exact ⟨F2, Gr.refl e2, rv.mono e1⟩
theorem Wk.tup {F : Hp} {l : Addr} {ds : List D} {vs : List V} (h : F l = some (.tup vs)) (r : RpL K F ds vs) : Wk K F (Itt K l) ds where
  go := fun i F2 H2 e1 e2 hi => by
    obtain ⟨v, hv, _⟩ := r.get (List.getElem?_eq_getElem hi)
    exact ⟨vs, v, SqT.of (e2 _ _ (e1 _ _ h)), hv⟩
  stop := fun i F2 H2 e1 e2 hi => ⟨vs, SqT.of (e2 _ _ (e1 _ _ h)), by rw [← r.len]; exact hi⟩
  yld := fun i F2 H2 x H3 d e1 e2 hd y => by
    obtain ⟨rfl, hx⟩ := y
    obtain ⟨v, hv, rv⟩ := r.get hd
    have z := hx vs (SqT.of (e2 _ _ (e1 _ _ h)))
    rw [hv] at z; cases z
    exact ⟨F2, Gr.refl e2, rv.mono e1⟩
def rgD (lo : Int) (n : Nat) : List D := (List.range n).map fun i => D.int (lo + (i : Nat))
theorem rgD_len (lo : Int) (n : Nat) : (rgD lo n).length = n := by unfold rgD; rw [List.length_map, List.length_range]
theorem rgD_get {lo : Int} {n i : Nat} {d : D} (h : (rgD lo n)[i]? = some d) : d = .int (lo + (i : Nat)) := by
  unfold rgD at h
  rw [List.getElem?_map] at h
  cases q : (List.range n)[i]? with
  | none => rw [q] at h; cases h
  | some j =>
    rw [q] at h; cases h
    have := List.getElem?_eq_some_iff.mp q
    obtain ⟨h1, h2⟩ := this
    rw [List.getElem_range] at h2
    rw [← h2]
theorem Wk.rng {F : Hp} (lo : Int) (n : Nat) : Wk K F (Itr lo n) (rgD lo n) where
  go := fun i F2 H2 e1 e2 hi => by rw [rgD_len] at hi; exact hi
  stop := fun i F2 H2 e1 e2 hi => by rw [rgD_len] at hi; exact hi
  yld := fun i F2 H2 x H3 d e1 e2 hd y => by
    obtain ⟨rfl, rfl⟩ := y
    rw [rgD_get hd]
    exact ⟨F2, Gr.refl e2, rfl⟩
def sgD (x : Str) : List D := x.cps.toList.map fun c => D.str ⟨#[c]⟩
theorem Wk.sgn {F : Hp} (x : Str) : Wk K F (Its x) (sgD x) where
  go := fun i F2 H2 e1 e2 hi => by
    show i < x.cps.size
    rw [← Array.length_toList]; simpa [sgD] using hi
  stop := fun i F2 H2 e1 e2 hi => by
    show x.cps.size ≤ i
    rw [← Array.length_toList]; simpa [sgD] using hi
  yld := fun i F2 H2 v H3 d e1 e2 hd y => by
    obtain ⟨rfl, u, hc, rfl⟩ := y
    unfold sgD at hd
    rw [List.getElem?_map, Array.getElem?_toList, hc] at hd
    cases hd
    exact ⟨F2, Gr.refl e2, rfl⟩
def asL (x : Sv) : M (List D) := match x.2 with | .lst ds => M.ok ds | .tup ds => M.no | .sl ds => M.ok ds | _ => M.no
def asTp (x : Sv) : M (List D) := match x.2 with | .tup ds => M.ok ds | _ => M.no
def asSg (x : Sv) : M (List D) := match x.2 with | .str ds => M.ok (sgD ds) | _ => M.no
def fSeq (k : Sv → M (List D)) (f : Env → M Sv) : Env → M (List D) := fun env => bd (f env) k
theorem Out.no {α : Type} {A : α → Prop} {B : XD → Prop} (o : Out (none : M α) A B) : False := by
  rcases o with ⟨_, e, _⟩ | ⟨_, e, _⟩ <;> cases e
/-- a list that is made or frozen: from here on it is frozen -/
theorem pi_l {tg : Expr} (he : PE X a (tD X.K W f)) : PI X tg a (tI X.K W (fSeq asL f)) := PI.imp (pi_list he) fun σ H R ⟨F0, H0, F, env, s, o⟩ => by
  have o : Out (bd (f env) asL) (fun ds => ∀ J F' H', Gr F H F' H' → Wk X.K F' J ds → R J H') (ExOk X.K F H W σ) := o
  refine tD.out s (Out.imp o.bd (fun x ox => ?_) fun _ k => k)
  intro v F1 H1 fp g1 w1 nd nw
  obtain ⟨g2, r2⟩ := g1.fz w1 nw
  obtain ⟨n, d⟩ := x
  cases d <;> first | exact (Out.no ox).elim | skip
  · obtain ⟨l, vs, h1, h2, h3⟩ := r2
    exact ⟨l, h1, ⟨vs, SqL.of (g2.fh _ _ h2)⟩, ox.ok rfl _ _ H1 g2 (Wk.lst h2 h3)⟩
  · obtain ⟨l, vs, h1, h2, h3⟩ := r2
    exact ⟨l, h1, ⟨vs, g2.fh.sqL h2⟩, ox.ok rfl _ _ H1 g2 (Wk.sl h2 h3)⟩
theorem pi_t {tg : Expr} (he : PE X a (tD X.K W f)) : PI X tg a (tI X.K W (fSeq asTp f)) := PI.imp (pi_tup he) fun σ H R ⟨F0, H0, F, env, s, o⟩ => by
  have o : Out (bd (f env) asTp) (fun ds => ∀ J F' H', Gr F H F' H' → Wk X.K F' J ds → R J H') (ExOk X.K F H W σ) := o
  refine tD.out s (Out.imp o.bd (fun x ox => ?_) fun _ k => k)
  intro v F1 H1 fp g1 w1 nd nw
  obtain ⟨g2, r2⟩ := g1.fz w1 nw
  obtain ⟨n, d⟩ := x
  cases d <;> first | exact (Out.no ox).elim | skip
  obtain ⟨l, vs, h1, h2, h3⟩ := r2
  exact ⟨l, h1, ⟨vs, SqT.of (g2.fh _ _ h2)⟩, ox.ok rfl _ _ H1 g2 (Wk.tup h2 h3)⟩
theorem pi_sg {tg : Expr} (he : PE X a (tW K W f)) : PI X tg a (tI K W (fSeq asSg f)) := PI.imp (pi_str he) fun σ H R ⟨F0, H0, F, env, s, o⟩ => by
  have o : Out (bd (f env) asSg) (fun ds => ∀ J F' H', Gr F H F' H' → Wk K F' J ds → R J H') (ExOk K F H W σ) := o
  refine tW.out s (Out.imp o.bd (fun x ox => ?_) fun _ k => k)
  intro v F1 H1 fp g1 w1
  obtain ⟨n, d⟩ := x
  cases d <;> first | exact (Out.no ox).elim | skip
  exact ⟨_, w1.str, ox.ok rfl _ _ H1 g1 (Wk.sgn _)⟩
def asR1 (x : List Sv) : M (List D) := match x with | [(_, .int j)] => if -(2 ^ 62) ≤ j ∧ j < 2 ^ 62 then M.ok (rgD 0 j.toNat) else M.no | _ => M.no
def fRg (k : List Sv → M (List D)) (f : Env → M (List Sv)) : Env → M (List D) := fun env => bd (f env) k
theorem pi_rg1 {tg : Expr} {p : Pos} (hg : Gl X "range") (hm : X.mg "range" = none) (ha : PA X [a] (tAw K W gs)) (hs : starEach [a] X.env = [(false, eval a X.env)] := by rfl) : PI X tg (.Call (.Name "range" p) [a] [] pos) (tI K W (fRg asR1 gs)) := PI.imp (pi_range1 hg hm ha hs) fun σ H R ⟨F0, H0, F, env, s, o⟩ => by
  have o : Out (bd (gs env) asR1) (fun ds => ∀ J F' H', Gr F H F' H' → Wk K F' J ds → R J H') (ExOk K F H W σ) := o
  refine tAw.out s (Out.imp o.bd (fun x ox => ?_) fun _ k => k)
  intro vs F1 H1 fp g1 w1
  rcases x with _ | ⟨⟨n, d⟩, _ | ⟨y, r⟩⟩
  · exact (Out.no ox).elim
  · obtain ⟨v, rfl, w2⟩ := w1.one
    cases d <;> first | exact (Out.no ox).elim | skip
    rename_i j
    obtain ⟨c, o2⟩ := Out.iff (show Out (if -(2 ^ 62) ≤ j ∧ j < 2 ^ 62 then M.ok (rgD 0 j.toNat) else M.no) _ _ from ox)
    exact ⟨j, by rw [w2.int], c.1, c.2, o2.ok rfl _ _ H1 g1 (Wk.rng 0 _)⟩
  · cases d <;> exact (Out.no ox).elim

/-! ### targets -/
/-- a target's store by a function: from the item to the slots; js are the slots that it may change -/
def tG (K : Fg) (js : List Nat) (t : D → Env → Option Env) : TG := fun v σ H Q => ∃ F0 H0 F env d env', SR K F0 H0 F H σ env ∧ Rp K F d v ∧ t d env = some env' ∧ ∀ σ', SR K F0 H0 F H σ' env' → σ'.length = σ.length → (∀ i, i ∉ js → σ'[i]? = σ[i]?) → Q σ' H
theorem PG.imp {tg : Expr} {t t' : TG} (h : PG X tg t) (k : ∀ v σ H Q, t' v σ H Q → t v σ H Q) : PG X tg t' := ⟨fun pins s σ H v u Q I r q => h.run pins s σ H v u Q I r (k v σ H Q q)⟩
def gN (i : Nat) : D → Env → Option Env := fun d env => some (env.set i (some (0, d)))
theorem pg_n {tg : Expr} {i : Nat} (p : PG X tg (gName i)) : PG X tg (tG K [i] (gN i)) := PG.imp p fun v σ H Q ⟨F0, H0, F, env, d, env', s, r, e, k⟩ => by
  cases e
  refine k _ (s.set (Gr.refl s.fh) (Ow.z r) List.nodup_nil fun _ m => by cases m) (by rw [List.length_set]) fun j hj => ?_
  rw [List.getElem?_set_ne fun e => hj (by rw [e]; exact List.mem_cons_self)]
/-- several names -/
def setsE : List Nat → List D → Env → Option Env
  | [], [], env => some env
  | i :: is, d :: ds, env => setsE is ds (env.set i (some (0, d)))
  | _, _, _ => none
def gT (is : List Nat) : D → Env → Option Env := fun d env => match d with
  | .tup ds => setsE is ds env
  | _ => none
inductive PNs (X : Cx) : List Expr → List Nat → TGs → Prop where
  | nil : PNs X [] [] gNil
  | cons {e : Expr} {es : List Expr} {i : Nat} {is : List Nat} {t : TGs} : PG X e (gName i) → PNs X es is t → (assignEach (e :: es) X.env).map (·.2) = assign e X.env :: (assignEach es X.env).map (·.2) → PNs X (e :: es) (i :: is) (gCons (gName i) t)
theorem PNs.pgs {es : List Expr} {is : List Nat} {t : TGs} (h : PNs X es is t) : PGs X es t := by
  induction h with
  | nil => exact pgs_nil
  | cons p _ hs ih => exact pgs_cons p ih hs
theorem PNs.go {es : List Expr} {is : List Nat} {t : TGs} (h : PNs X es is t) : ∀ {F0 H0 F H : Hp} {σ : St} {env env' : Env} {ds : List D} {vs : List V} {Q : St → Hp → Prop}, SR K F0 H0 F H σ env → RpL K F ds vs → setsE is ds env = some env' →
    (∀ σ', SR K F0 H0 F H σ' env' → σ'.length = σ.length → (∀ i, i ∉ is → σ'[i]? = σ[i]?) → Q σ' H) → t vs σ H Q := by
  induction h with
  | nil =>
    intro F0 H0 F H σ env env' ds vs Q s r e k
    rcases ds with _ | ⟨d, ds⟩
    · cases e
      cases (show vs = [] from r)
      exact ⟨rfl, k σ s rfl fun _ _ => rfl⟩
    · cases e
  | @cons e es i is t p q hs ih =>
    intro F0 H0 F H σ env env' ds vs Q s r e k
    rcases ds with _ | ⟨d, ds⟩
    · cases e
    · obtain ⟨v, vr, rfl, r1, r2⟩ := r
      refine ⟨v, vr, rfl, ih (s.set (Gr.refl s.fh) (Ow.z r1) List.nodup_nil fun _ m => by cases m) r2 e fun σ' s' hl ho => k σ' s' (by rw [hl, List.length_set]) fun j hj => ?_⟩
      rw [ho j fun m => hj (List.mem_cons_of_mem _ m), List.getElem?_set_ne fun e => hj (by rw [e]; exact List.mem_cons_self)]
theorem pg_t {es : List Expr} {k : Nat} {is : List Nat} {t : TGs} {n : Nat} (hc : X.calm = true) (h : PNs X es is t)
    (hn : (assignEach es X.env).length = n := by rfl) (hst : (assignEach es X.env).findIdx? (·.1) = none := by rfl) (hl : is.length = n := by rfl) : PG X (.Tuple es k pos) (tG X.K is (gT is)) := PG.imp (pg_tup hc h.pgs hn hst) fun v σ H Q ⟨F0, H0, F, env, d, env', s, r, e, k⟩ => by
  cases d <;> first | (cases e; done) | skip
  rename_i ds
  obtain ⟨l, vs, rfl, h2, h3⟩ := r
  have e' : setsE is ds env = some env' := e
  have len : ∀ (is : List Nat) (ds : List D) (env : Env), setsE is ds env = some env' → is.length = ds.length := by
    intro is
    induction is with
    | nil => intro ds env h; cases ds with | nil => rfl | cons _ _ => cases h
    | cons i is ih => intro ds env h; cases ds with | nil => cases h | cons d ds => rw [List.length_cons, List.length_cons, ih ds _ h]
  refine ⟨l, vs, rfl, SqT.of (s.fh _ _ h2), ?_, h.go s h3 e' k⟩
  rw [← h3.len, ← len _ _ _ e', hl]
end
end DP
/-! DP: comprehensions, statements. -/
namespace DP
open PySem L2

/-! ### comprehensions -/
def wipeE (env : Env) : List Nat → Env
  | [] => env
  | v :: vs => (wipeE env vs).set v none
theorem wipe_at (σ : St) (i : Nat) : ∀ vs : List Nat, (wipe σ vs)[i]? = if i ∈ vs then (if i < σ.length then some none else none) else σ[i]?
  | [] => by rw [if_neg (by simp)]; rfl
  | v :: vs => by
    unfold wipe
    by_cases e : v = i
    · subst e
      rw [if_pos List.mem_cons_self]
      by_cases l : v < σ.length
      · rw [if_pos l, List.getElem?_set_self (by rw [wipe_length]; exact l)]
      · rw [if_neg l, List.getElem?_eq_none (by rw [List.length_set, wipe_length]; omega)]
    · rw [List.getElem?_set_ne e, wipe_at σ i vs]
      by_cases m : i ∈ vs
      · rw [if_pos m, if_pos (List.mem_cons_of_mem _ m)]
      · rw [if_neg m, if_neg fun z => (List.mem_cons.mp z).elim (fun q => e q.symm) m]
theorem wipe_same {σ σ' : St} {vs js : List Nat} (hl : σ'.length = σ.length) (ho : ∀ i, i ∉ js → σ'[i]? = (wipe σ vs)[i]?) (hj : ∀ i ∈ js, i ∈ vs) : wipe σ' vs = wipe σ vs := by
  apply List.ext_getElem?
  intro i
  rw [wipe_at, wipe_at, hl]
  by_cases m : i ∈ vs
  · rw [if_pos m, if_pos m]
  · rw [if_neg m, if_neg m, ho i fun z => m (hj i z), wipe_at, if_neg m]
section
variable {K : Fg} {F0 H0 F H F' H' : Hp} {σ : St} {env : Env}
theorem SR.kill (s : SR K F0 H0 F H σ env) (i : Nat) : SR K F0 H0 F H (σ.set i none) (env.set i none) := by
  obtain ⟨fp, h1, h2, h3, h4⟩ := s.ex
  refine ⟨s.g, by simpa using s.len, fp, fun j n d e => ?_, h2, h3, h4⟩
  by_cases z : i = j
  · subst z
    by_cases l : i < env.length
    · rw [List.getElem?_set_self l] at e; cases e
    · rw [List.getElem?_eq_none (by simpa using l)] at e; cases e
  · rw [List.getElem?_set_ne z] at e ⊢
    exact h1 j n d e
theorem SR.wipe (s : SR K F0 H0 F H σ env) : ∀ vs : List Nat, SR K F0 H0 F H (L2.wipe σ vs) (wipeE env vs)
  | [] => s
  | v :: vs => (SR.wipe s vs).kill v
theorem Gr.mut {p : Addr} {o : HO} (g : Gr F H F' H') (h : H p = none) (f : F' p = none) : Gr F H F' (upd H' p o) where
  ff := g.ff
  hh := fun a u e => by rw [upd_ne (ne_of_none e h)]; exact g.hh a u e
  fh := fun a u e => by rw [upd_ne (ne_of_none e f)]; exact g.fh a u e
  nw := g.nw
end
/-- the items of a comprehension, none where something is lacking or raises -/
def lcF (t : D → Env → Option Env) (c : Env → M Bool) (e : Env → M Sv) (env : Env) : List D → Option (List D)
  | [] => some []
  | d :: ds => match t d env with
    | none => none
    | some env' => match c env' with
      | some (.ok false) => lcF t c e env ds
      | some (.ok true) => match e env' with
        | some (.ok (0, y)) => (lcF t c e env ds).map (y :: ·)
        | _ => none
      | _ => none
def fLc (vs : List Nat) (t : D → Env → Option Env) (c : Env → M Bool) (e : Env → M Sv) (l : Env → M (List D)) : Env → M Sv := fun env =>
  bd (l env) fun ds => lf (if ds.length ≤ sizeLine then (lcF t c e (wipeE env vs) ds).map fun ys => ((1, .lst ys) : Sv) else none)
abbrev W0 : WX := fun _ _ _ _ => False
theorem lcF_cons {t : D → Env → Option Env} {c : Env → M Bool} {e : Env → M Sv} {env : Env} {d : D} {ds out : List D} (h : lcF t c e env (d :: ds) = some out) :
    ∃ env', t d env = some env' ∧ ((c env' = M.ok false ∧ lcF t c e env ds = some out) ∨ ∃ y r, c env' = M.ok true ∧ e env' = M.ok (0, y) ∧ lcF t c e env ds = some r ∧ out = y :: r) := by
  unfold lcF at h
  cases q1 : t d env with
  | none => rw [q1] at h; cases h
  | some env' =>
    rw [q1] at h
    refine ⟨env', rfl, ?_⟩
    dsimp only at h
    rcases q2 : c env' with _ | _ | b
    · rw [q2] at h; cases h
    · rw [q2] at h; cases h
    · rw [q2] at h
      cases b with
      | false => exact .inl ⟨rfl, h⟩
      | true =>
        have h : (match e env' with
          | some (.ok (0, y)) => (lcF t c e env ds).map (y :: ·)
          | _ => none) = some out := h
        rcases q3 : e env' with _ | _ | ⟨n, y⟩
        · rw [q3] at h; cases h
        · rw [q3] at h; cases h
        · rw [q3] at h
          cases n with
          | succ n => cases h
          | zero =>
            have h : (lcF t c e env ds).map (y :: ·) = some out := h
            cases q4 : lcF t c e env ds with
            | none => rw [q4] at h; cases h
            | some r => rw [q4] at h; cases h; exact .inr ⟨y, r, rfl, rfl, rfl, rfl⟩
section
variable {X : Cx} {K : Fg} {W : WX} {fi : Env → M (List D)} {tg : D → Env → Option Env} {fc : Env → M Bool} {fe : Env → M Sv} {vs js : List Nat}
theorem tLc_of (hj : ∀ i ∈ js, i ∈ vs) {σ : St} {H : Hp} {Q : VK} (q : tD K W (fLc vs tg fc fe fi) σ H Q) : tLc (tI K W fi) (tG K js tg) (tB' K W0 fc) (tD K W0 fe) vs σ H Q := by
  obtain ⟨F0, H0, F, env, s, o⟩ := q
  have o : Out (fLc vs tg fc fe fi env) (EvOk K F H Q) (ExOk K F H W σ) := o
  refine ⟨F0, H0, F, env, s, Out.imp o.bd (fun ds ox J F1 H1 g1 wk => ?_) fun _ k => k⟩
  obtain ⟨z, ez, kz⟩ := ox.lf
  by_cases c : ds.length ≤ sizeLine
  · rw [if_pos c] at ez
    cases q0 : lcF tg fc fe (wipeE env vs) ds with
    | none => rw [q0] at ez; cases ez
    | some out =>
      rw [q0] at ez; cases ez
      intro Dl hD
      refine ⟨fun i m H2 => m = ds.length - i ∧ i ≤ ds.length ∧ ∃ F2 acc ys rest, Gr F1 H1 F2 H2 ∧ F2 Dl = none ∧ H2 Dl = some (.lst acc) ∧ RpL K F2 ys acc ∧ ys.length ≤ i ∧ lcF tg fc fe (wipeE env vs) (ds.drop i) = some rest ∧ out = ys ++ rest,
        ⟨_, rfl, Nat.zero_le _, F1, [], [], out, Gr.own g1.fh hD, g1.fh.back hD, upd_same, rfl, Nat.zero_le _, q0, rfl⟩, ?_⟩
      rintro i m H2 ⟨rfl, hi, F2, acc, ys, rest, g2, nD, aD, ra, hl, qr, qo⟩
      by_cases lt : i < ds.length
      · refine .inr ⟨wk.go i F2 H2 g2.ff g2.fh lt, fun H3 => ∃ F3 acc ys rest, Gr F1 H1 F3 H3 ∧ F3 Dl = none ∧ H3 Dl = some (.lst acc) ∧ RpL K F3 ys acc ∧ ys.length ≤ i + 1 ∧ lcF tg fc fe (wipeE env vs) (ds.drop (i + 1)) = some rest ∧ out = ys ++ rest, fun H3 n3 => ⟨_, by omega, rfl, lt, n3⟩, fun x H3 y => ?_⟩
        obtain ⟨F3, g3, rx⟩ := wk.yld i F2 H2 x H3 _ g2.ff g2.fh (List.getElem?_eq_getElem lt) y
        rw [List.drop_eq_getElem_cons lt] at qr
        obtain ⟨env', et, oc⟩ := lcF_cons qr
        have s3 : SR K F0 H0 F3 H3 (L2.wipe σ vs) (wipeE env vs) := (((s.on g1).on g2).on g3).wipe vs
        have g23 := g2.trans g3
        have nD3 : F3 Dl = none := (g3.nw Dl _ aD).trans nD
        have aD3 : H3 Dl = some (.lst acc) := g3.hh _ _ aD
        refine ⟨F0, H0, F3, _, _, env', s3, rx, et, fun σ2 s4 l4 o4 => ⟨wipe_same (l4.trans (wipe_length _ _)) o4 hj, ?_⟩⟩
        rcases oc with ⟨ec, qr'⟩ | ⟨yd, r, ec, ee, qr', er⟩
        · refine tB'.out s4 (.inl ⟨false, ec, fun F4 H4 g4 => ?_⟩)
          have g14 := g23.trans g4
          exact ⟨F4, acc, ys, rest, g14, (g4.nw Dl _ aD3).trans nD3, g4.hh _ _ aD3, RpL.mono (g3.ff.tr g4.ff) _ _ ra, by omega, qr', qo⟩
        · refine tB'.out s4 (.inl ⟨true, ec, fun F4 H4 g4 => ?_⟩)
          refine tD.out (s4.on g4) (.inl ⟨(0, yd), ee, fun v F5 H5 fp g5 w5 _ _ => ?_⟩)
          have g45 := g4.trans g5
          have aD5 := g45.hh _ _ aD3
          have nD5 := (g45.nw Dl _ aD3).trans nD3
          refine ⟨acc, aD5, ?_, F5, acc ++ [v], ys ++ [yd], r, (g23.trans g45).mut hD nD5, nD5, upd_same, (RpL.mono (g3.ff.tr g45.ff) _ _ ra).append ⟨v, [], rfl, w5.2, rfl⟩, by rw [List.length_append, List.length_singleton]; omega, qr', by rw [qo, er, List.append_assoc]; rfl⟩
          rw [← ra.len]
          omega
      · have e : i = ds.length := by omega
        subst e
        rw [List.drop_length] at qr
        cases qr
        refine .inl ⟨wk.stop _ F2 H2 g2.ff g2.fh (Nat.le_refl _), ?_⟩
        rw [List.append_nil] at qo
        subst qo
        refine kz (.ref Dl) F2 H2 [Dl] (g1.trans g2) (Ow.lst1 ra nD aD) (List.nodup_cons.mpr ⟨by simp, List.nodup_nil⟩) fun a m => ?_
        rw [List.mem_singleton] at m
        rw [m]; exact g1.hh.back hD
  · rw [if_neg c] at ez; cases ez
theorem PTs.imp {X : Cx} {ifs : List Expr} {t t' : TT} (h : PTs X ifs t) (k : ∀ σ H Q, t' σ H Q → t σ H Q) : PTs X ifs t' := ⟨fun pins s σ H Q I q => h.run pins s σ H Q I (k σ H Q q)⟩
theorem pts_0 {W : WX} : PTs X [] (tB' K W fun _ => M.ok true) := PTs.imp pts_nil fun σ H Q ⟨F0, H0, F, env, s, o⟩ => (Out.ok o rfl) F H (Gr.refl s.fh)
theorem pts_1 {W : WX} {c : Expr} {t : Env → M Bool} (h : PT X c (tB' K W t)) : PTs X [c] (tB' K W t) := pts_one h
theorem pd_lc {elt tgx iter : Expr} {ifs : List Expr} {scope : Scope} {own : List (Str × Nat)} {pos : Pos} (js : List Nat) (hc : X.calm = true) (hN : X.N.Nodup) (hi : PI X tgx iter (tI X.K W fi)) (ok : BlkOk X.N X.env.scope scope own)
    (hg : ∀ (s : Shared) (H : Hp) (C : Addr) (cl : List (Str × Addr)) (fp : List Addr), PG (X.blk s H scope (compEnvC scope cl C X.env) fp) tgx (tG X.K js tg)) (ht : ∀ (s : Shared) (H : Hp) (C : Addr) (cl : List (Str × Addr)) (fp : List Addr), PTs (X.blk s H scope (compEnvC scope cl C X.env) fp) ifs (tB' X.K W0 fc))
    (he : ∀ (s : Shared) (H : Hp) (C : Addr) (cl : List (Str × Addr)) (fp : List Addr), PE (X.blk s H scope (compEnvC scope cl C X.env) fp) elt (tD X.K W0 fe)) (hj : ∀ i ∈ js, i ∈ own.map (·.2) := by decide) (hs : ∀ x, foldedSetIterable iter X.env x = pure x := by intro _; rfl) :
    PE X (.ListComp elt [⟨tgx, iter, ifs, 0⟩] scope pos) (tD X.K W (fLc (own.map (·.2)) tg fc fe fi)) := PE.imp (pe_lc hc hN hi ok hg ht he hs) fun _ _ _ q => tLc_of hj q
end

/-! ### statements -/
inductive Fl where
  | nx (env : Env) | rt (x : Sv) | bk (env : Env) | ct (env : Env) | er (e : XD) (env : Env)
abbrev Gs := Env → Option Fl
def FlOk (K : Fg) (F0 H0 Fb : Hp) (W : WX) (Dn : Ends) : Fl → Prop
  | .nx env => ∀ σ F H, Ex Fb F → SR K F0 H0 F H σ env → Dn.nx σ H
  | .bk env => ∀ σ F H, Ex Fb F → SR K F0 H0 F H σ env → Dn.bk σ H
  | .ct env => ∀ σ F H, Ex Fb F → SR K F0 H0 F H σ env → Dn.ct σ H
  | .rt x => ∀ v F H fp, Gr F0 H0 F H → Ow K F H x.1 x.2 v fp → fp.Nodup → (∀ a ∈ fp, H0 a = none) → Dn.rt v H
  | .er e env => ∀ cls dd σ F H, Ex Fb F → SR K F0 H0 F H σ env → ExR K H0 F H cls dd e → W cls dd σ H
theorem FlOk.on {K : Fg} {F0 H0 Fb F : Hp} {W : WX} {Dn : Ends} {r : Fl} (k : FlOk K F0 H0 Fb W Dn r) (x : Ex Fb F) : FlOk K F0 H0 F W Dn r := by
  cases r with
  | nx env => exact fun σ F' H y => k σ F' H (x.tr y)
  | bk env => exact fun σ F' H y => k σ F' H (x.tr y)
  | ct env => exact fun σ F' H y => k σ F' H (x.tr y)
  | rt v => exact k
  | er e env => exact fun cls dd σ F' H y => k cls dd σ F' H (x.tr y)
def tS (K : Fg) (W : WX) (g : Gs) : TS := fun Dn σ H => ∃ F0 H0 F env r, SR K F0 H0 F H σ env ∧ g env = some r ∧ FlOk K F0 H0 F W Dn r
def gM {α : Type} (m : M α) (env : Env) (k : α → Option Fl) : Option Fl := match m with
  | none => none
  | some (.error e) => some (.er e env)
  | some (.ok a) => k a
theorem gM_some {α : Type} {m : M α} {env : Env} {k : α → Option Fl} {r : Fl} (h : gM m env k = some r) : (∃ a, m = M.ok a ∧ k a = some r) ∨ ∃ e, m = M.er e ∧ r = .er e env := by
  rcases m with _ | e | a
  · cases h
  · exact .inr ⟨e, rfl, (Option.some.inj h).symm⟩
  · exact .inl ⟨a, rfl, h⟩
theorem FlOk.er {K : Fg} {F0 H0 F H : Hp} {W : WX} {Dn : Ends} {σ : St} {env : Env} {e : XD} (s : SR K F0 H0 F H σ env) (k : FlOk K F0 H0 F W Dn (.er e env)) : ExOk K F H W σ e := fun cls dd F' H' g r => k cls dd σ F' H' g.ff (s.on g) (r.on s.g.hh)
section
variable {X : Cx} {K : Fg} {W : WX} {a c : Expr} {st : Stmt} {rest : List Stmt} {pos : Pos} {f : Env → M Sv} {t : Env → M Bool} {g g1 g2 : Gs}
def gNil : Gs := fun env => some (.nx env)
def gSeq (g1 g2 : Gs) : Gs := fun env => match g1 env with
  | some (.nx env') => g2 env'
  | r => r
theorem sd_nil : PSs X [] (tS K W gNil) := PSs.imp pss_nil fun D σ H ⟨F0, H0, F, env, r, s, e, k⟩ => by
  cases e
  exact k σ F H (Ex.rfl' _) s
theorem sd_cons (h1 : PS X st (tS K W g1)) (h2 : PSs X rest (tS K W g2)) : PSs X (st :: rest) (tS K W (gSeq g1 g2)) := PSs.imp (pss_cons h1 h2) fun D σ H ⟨F0, H0, F, env, r, s, e, k⟩ => by
  unfold gSeq at e
  show tS K W g1 { D with nx := tS K W g2 D } σ H
  cases q : g1 env with
  | none => rw [q] at e; cases e
  | some r1 =>
    rw [q] at e
    refine ⟨F0, H0, F, env, r1, s, q, ?_⟩
    cases r1 with
    | nx env' => exact fun σ' F' H' x s' => ⟨F0, H0, F', env', r, s', e, k.on x⟩
    | rt x => cases e; exact k
    | bk x => cases e; exact k
    | ct x => cases e; exact k
    | er x y => cases e; exact k
theorem sd_one (h1 : PS X st (tS K W g1)) : PSs X [st] (tS K W g1) := pss_one h1
def gSet (i : Nat) (f : Env → M Sv) : Gs := fun env => gM (f env) env fun x => some (.nx (env.set i (some x)))
theorem sAsg_of {i : Nat} {D : Ends} {σ : St} {H : Hp} (q : tS K W (gSet i f) D σ H) : tAsg (tD K W f) (gName i) D σ H := by
  obtain ⟨F0, H0, F, env, r, s, e, k⟩ := q
  rcases gM_some e with ⟨x, e1, e2⟩ | ⟨x, e1, e2⟩
  · cases e2
    exact tD.go s e1 fun v F1 H1 fp g o nd nw => k _ F1 H1 g.ff (s.set g o nd nw)
  · subst e2
    exact tD.ex s e1 (FlOk.er s k)
theorem sd_set (i : Nat) {x : Str} {pos' : Pos} (hN : X.N.Nodup) (hi : X.N[i]? = some x) (hx : Loc X.env.scope x) (he : PE X a (tD K W f)) (hs : swapsWith a (some (.Name x pos')) pos.line X.env = pure false := by rfl) (hf : X.fn x = true ∨ X.env.scope.names.lookup x = some .local := by first | exact .inl rfl | exact .inr rfl | assumption) :
    PS X (.Assign [.Name x pos'] a pos) (tS K W (gSet i f)) := PS.imp (ps_set hN hi hx he hs hf) fun _ _ _ q => sAsg_of q
theorem sd_setLc (i : Nat) {y : Str} {py : Pos} {elt tgx iter : Expr} {ifs : List Expr} {scope : Scope} {own : List (Str × Nat)} {pos spos : Pos} {fi : Env → M (List D)} {tg : D → Env → Option Env} {fc : Env → M Bool} {fe : Env → M Sv} (js : List Nat) (hc : X.calm = true) (hN : X.N.Nodup) (hy : X.N[i]? = some y) (hyl : X.env.scope.names.lookup y = some .local)
    (hsw : swapsWith (.ListComp elt [⟨tgx, iter, ifs, 0⟩] scope pos) (some (.Name y py)) spos.line X.env = pure true) (hi : PI X tgx iter (tI X.K W fi)) (ok : BlkOk X.N X.env.scope scope own)
    (hg : ∀ (s : Shared) (H : Hp) (C : Addr) (cl : List (Str × Addr)) (fp : List Addr), PG (X.blk s H scope (compEnvC scope cl C X.env) fp) tgx (tG X.K js tg)) (ht : ∀ (s : Shared) (H : Hp) (C : Addr) (cl : List (Str × Addr)) (fp : List Addr), PTs (X.blk s H scope (compEnvC scope cl C X.env) fp) ifs (tB' X.K W0 fc))
    (he : ∀ (s : Shared) (H : Hp) (C : Addr) (cl : List (Str × Addr)) (fp : List Addr), PE (X.blk s H scope (compEnvC scope cl C X.env) fp) elt (tD X.K W0 fe)) (hj : ∀ i ∈ js, i ∈ own.map (·.2) := by decide) (hs : ∀ x, foldedSetIterable iter X.env x = pure x := by intro _; rfl) :
    PS X (.Assign [.Name y py] (.ListComp elt [⟨tgx, iter, ifs, 0⟩] scope pos) spos) (tS X.K W (gSet i (fLc (own.map (·.2)) tg fc fe fi))) := PS.imp (ps_setLc hc hN hy hyl hsw hi ok hg ht he hs) fun D σ H q => by
  have z := sAsg_of q
  exact tLc_of hj (σ := σ) z
/-- unpacking -/
def gAsg (t : D → Env → Option Env) (f : Env → M Sv) : Gs := fun env => gM (f env) env fun x => if x.1 = 0 then (t x.2 env).map .nx else none
theorem sd_asg {tgx : Expr} {js : List Nat} {tf : D → Env → Option Env} (he : PE X a (tD X.K W f)) (hg : PG X tgx (tG X.K js tf)) (hs : swapsWithSole [tgx] a pos.line X.env = pure false := by rfl) (hw : swappedStores [tgx] a X.env = pure none := by rfl)
    (h1 : (assignEach [tgx] X.env).map (·.2) = [assign tgx X.env] := by rfl) : PS X (.Assign [tgx] a pos) (tS X.K W (gAsg tf f)) := PS.imp (ps_asg he hg hs hw h1) fun D σ H ⟨F0, H0, F, env, r, s, e, k⟩ => by
  rcases gM_some e with ⟨⟨n, d⟩, e1, e2⟩ | ⟨x, e1, e2⟩
  · by_cases c : n = 0
    · subst c
      rw [if_pos rfl] at e2
      cases q : tf d env with
      | none => rw [show tf (0, d).2 env = none from q] at e2; cases e2
      | some env' =>
        rw [show tf (0, d).2 env = some env' from q] at e2
        cases e2
        exact tD.go s e1 fun v F1 H1 fp g o nd nw => ⟨F0, H0, F1, env, d, env', s.on g, o.2, q, fun σ' s' _ _ => k σ' F1 H1 g.ff s'⟩
    · rw [if_neg c] at e2; cases e2
  · subst e2
    exact tD.ex s e1 (FlOk.er s k)
def gRet (f : Env → M Sv) : Gs := fun env => gM (f env) env fun x => some (.rt x)
theorem sd_ret (he : PE X a (tD K W f)) : PS X (.Return (some a) pos) (tS K W (gRet f)) := PS.imp (ps_ret he) fun D σ H ⟨F0, H0, F, env, r, s, e, k⟩ => by
  rcases gM_some e with ⟨x, e1, e2⟩ | ⟨x, e1, e2⟩
  · cases e2
    exact tD.go s e1 fun v F1 H1 fp g o nd nw => k v F1 H1 fp (s.g.trans g) o nd fun a m => s.g.hh.back (nw a m)
  · subst e2
    exact tD.ex s e1 (FlOk.er s k)
/-- a slot that is owned is handed back as it is -/
def gRetO (i : Nat) : Gs := fun env => match env[i]? with | some (some x) => some (.rt x) | _ => none
theorem sd_retO (i : Nat) {x : Str} {p : Pos} (he : PE X (.Name x p) (tVar i)) : PS X (.Return (some (.Name x p)) pos) (tS K W (gRetO i)) := PS.imp (ps_ret he) fun D σ H ⟨F0, H0, F, env, r, s, e, k⟩ => by
  unfold gRetO at e
  rcases q : env[i]? with _ | _ | ⟨n, d⟩
  · rw [q] at e; cases e
  · rw [q] at e; cases e
  · rw [q] at e; cases e
    obtain ⟨fp, h1, h2, h3, h4⟩ := s.ex
    obtain ⟨v, e1, o⟩ := h1 i n d q
    exact ⟨v, e1, k v F H (fp i) s.g o (h2 i) fun a m => h4 i a m⟩
def gRetN : Gs := fun env => some (.rt (0, .non))
theorem sd_retN : PS X (.Return none pos) (tS K W gRetN) := PS.imp ps_retN fun D σ H ⟨F0, H0, F, env, r, s, e, k⟩ => by
  cases e
  exact k .non F H [] s.g ⟨rfl, rfl⟩ List.nodup_nil fun _ m => by cases m
def gDrop (f : Env → M Sv) : Gs := fun env => gM (f env) env fun _ => some (.nx env)
theorem sd_drop (he : PE X a (tD K W f)) (hs : swapsWith a none pos.line X.env = pure false := by rfl) : PS X (.Expr a pos) (tS K W (gDrop f)) := PS.imp (ps_expr he hs) fun D σ H ⟨F0, H0, F, env, r, s, e, k⟩ => by
  rcases gM_some e with ⟨x, e1, e2⟩ | ⟨x, e1, e2⟩
  · cases e2
    exact tD.go s e1 fun v F1 H1 fp g o nd nw => k σ F1 H1 g.ff (s.on g)
  · subst e2
    exact tD.ex s e1 (FlOk.er s k)
theorem sd_pass : PS X (.Pass pos) (tS K W gNil) := PS.imp ps_pass fun D σ H ⟨F0, H0, F, env, r, s, e, k⟩ => by
  cases e
  exact k σ F H (Ex.rfl' _) s
def gIf (t : Env → M Bool) (g1 g2 : Gs) : Gs := fun env => gM (t env) env fun b => if b then g1 env else g2 env
theorem sd_if {as bs : List Stmt} (hc : PT X c (tB' K W t)) (h1 : PSs X as (tS K W g1)) (h2 : PSs X bs (tS K W g2)) : PS X (.If c as bs pos) (tS K W (gIf t g1 g2)) := PS.imp (ps_if hc h1 h2) fun D σ H ⟨F0, H0, F, env, r, s, e, k⟩ => by
  rcases gM_some e with ⟨x, e1, e2⟩ | ⟨x, e1, e2⟩
  · refine tB'.out s (.inl ⟨x, e1, fun F1 H1 g => ?_⟩)
    cases x with
    | true => exact ⟨F0, H0, F1, env, r, s.on g, e2, k.on g.ff⟩
    | false => exact ⟨F0, H0, F1, env, r, s.on g, e2, k.on g.ff⟩
  · subst e2
    exact tB'.out s (.inr ⟨x, e1, FlOk.er s k⟩)
/-- for -/
def forF (t : D → Env → Option Env) (g : Gs) : List D → Env → Option Fl
  | [], env => some (.nx env)
  | d :: ds, env => match t d env with
    | none => none
    | some env' => match g env' with
      | some (.nx env2) => forF t g ds env2
      | some (.ct env2) => forF t g ds env2
      | some (.bk env2) => some (.nx env2)
      | r => r
def gFor (t : D → Env → Option Env) (l : Env → M (List D)) (g : Gs) : Gs := fun env => gM (l env) env fun ds => forF t g ds env
theorem sd_for {tgx iter : Expr} {body : List Stmt} {fi : Env → M (List D)} {tf : D → Env → Option Env} {js : List Nat} (hp : PassesOwn (model X.prog X.w) X.A X.env X.xe) (hc : X.calm = true) (hi : PI X tgx iter (tI X.K W fi)) (hg : PG X tgx (tG X.K js tf)) (hb : PSs X body (tS X.K W g))
    (hs : ∀ x, foldedSetIterable iter X.env x = pure x := by intro _; rfl) : PS X (.For tgx iter body [] pos) (tS X.K W (gFor tf fi g)) := PS.imp (ps_for hp hc hi hg hb hs) fun D σ H ⟨F0, H0, F, env, r, s, e, k⟩ => by
  rcases gM_some e with ⟨ds, e1, e2⟩ | ⟨x, e1, e2⟩
  · refine ⟨F0, H0, F, env, s, .inl ⟨ds, e1, fun J F1 H1 g1 wk => ?_⟩⟩
    refine ⟨fun i m σ2 H2 => m = ds.length - i ∧ i ≤ ds.length ∧ ∃ F2 env2, Ex F1 F2 ∧ SR X.K F0 H0 F2 H2 σ2 env2 ∧ forF tf g (ds.drop i) env2 = some r, ⟨_, rfl, Nat.zero_le _, F1, env, Ex.rfl' _, s.on g1, e2⟩, ?_⟩
    rintro i m σ2 H2 ⟨rfl, hi, F2, env2, x2, s2, q2⟩
    by_cases lt : i < ds.length
    · refine .inr ⟨wk.go i F2 H2 x2 s2.fh lt, fun σ3 H3 => ∃ F3 env3, Ex F1 F3 ∧ SR X.K F0 H0 F3 H3 σ3 env3 ∧ forF tf g (ds.drop (i + 1)) env3 = some r, fun σ3 H3 n3 => ⟨_, by omega, rfl, lt, n3⟩, fun x H3 y => ?_⟩
      obtain ⟨F3, g3, rx⟩ := wk.yld i F2 H2 x H3 _ x2 s2.fh (List.getElem?_eq_getElem lt) y
      rw [List.drop_eq_getElem_cons lt] at q2
      unfold forF at q2
      cases q3 : tf ds[i] env2 with
      | none => rw [q3] at q2; cases q2
      | some env' =>
        rw [q3] at q2
        dsimp only at q2
        have x3 : Ex F1 F3 := x2.tr g3.ff
        refine ⟨F0, H0, F3, env2, _, env', s2.on g3, rx, q3, fun σ3 s3 _ _ => ?_⟩
        cases q4 : g env' with
        | none => rw [q4] at q2; cases q2
        | some r1 =>
          rw [q4] at q2
          refine ⟨F0, H0, F3, env', r1, s3, q4, ?_⟩
          cases r1 with
          | nx env4 => exact fun σ4 F4 H4 y s4 => ⟨F4, env4, x3.tr y, s4, q2⟩
          | ct env4 => exact fun σ4 F4 H4 y s4 => ⟨F4, env4, x3.tr y, s4, q2⟩
          | bk env4 => cases q2; exact k.on (g1.ff.tr x3)
          | rt v => cases q2; exact k
          | er x y => cases q2; exact k.on (g1.ff.tr x3)
    · have e : i = ds.length := by omega
      subst e
      rw [List.drop_length] at q2
      cases q2
      exact .inl ⟨wk.stop _ F2 H2 x2 s2.fh (Nat.le_refl _), k σ2 F2 H2 (g1.ff.tr x2) s2⟩
  · subst e2
    exact ⟨F0, H0, F, env, s, .inr ⟨x, e1, FlOk.er s k⟩⟩
end
end DP
/-! DP: defs, calls, while, owned objects that change. -/
namespace DP
open PySem L2 PySem.Spec PyProof.Rows

/-! ### what is flat beyond its owned layers -/
def flatN : Nat → D → Bool
  | 0, d => flat d
  | n + 1, .lst ds => ds.all (flatN n)
  | n + 1, .dK _ ds => ds.all (flatN n)
  | n + 1, .dT _ ds => ds.all (flatN n)
  | _ + 1, _ => false
section
variable {K : Fg} {F F' H H' : Hp}
theorem OwL.cong {R R' : D → V → List Addr → Prop} : ∀ {ds : List D} {vs : List V} {r : List Addr}, (∀ d ∈ ds, ∀ v r', (∀ a ∈ r', a ∈ r) → R d v r' → R' d v r') → OwL R ds vs r → OwL R' ds vs r
  | [], _, _, _, h => h
  | d :: ds, _, _, f, ⟨v, vr, r1, r2, h1, h2, h3, h4⟩ => by
    subst h2
    exact ⟨v, vr, r1, r2, h1, rfl, f d List.mem_cons_self v r1 (fun a m => List.mem_append_left _ m) h3, OwL.cong (fun d' m v' r' z => f d' (List.mem_cons_of_mem _ m) v' r' fun a m' => List.mem_append_right _ (z a m')) h4⟩
/-- nothing but flat data beyond the owned layers: the frozen heap does not matter -/
theorem Ow.flatN : ∀ {n : Nat} {d : D} {v : V} {fp : List Addr}, flatN n d = true → (∀ a ∈ fp, F' a = none) → Ow K F H n d v fp → Ow K F' H n d v fp
  | 0, d, v, fp, f, _, h => by
    have e := h.fv f
    subst e
    exact ⟨h.1, Rp.flat f⟩
  | n + 1, d, v, fp, f, nf, ⟨a, o, r, h1, h2, h3, h4, h5⟩ => by
    subst h4
    refine ⟨a, o, r, h1, nf a List.mem_cons_self, h3, rfl, ?_⟩
    have nr : ∀ b ∈ r, F' b = none := fun b m => nf b (List.mem_cons_of_mem _ m)
    have step : ∀ {ds : List D} {vs : List V}, ds.all (DP.flatN n) = true → OwL (Ow K F H n) ds vs r → OwL (Ow K F' H n) ds vs r := fun {ds vs} fa w =>
      OwL.cong (fun d' m v' r' z w' => Ow.flatN (List.all_eq_true.mp fa d' m) (fun b mb => nr b (z b mb)) w') w
    cases d <;> cases o <;> first
      | exact h5.elim
      | exact step f h5
      | exact ⟨h5.1, step f h5.2⟩
      | exact absurd (show false = true from f) Bool.false_ne_true
/-- owned objects by what stands at their addresses -/
theorem Ow.heap : ∀ {n : Nat} {d : D} {v : V} {fp : List Addr}, (∀ a ∈ fp, H' a = H a) → Ow K F H n d v fp → Ow K F H' n d v fp
  | 0, _, _, _, _, h => h
  | n + 1, d, v, _, q, ⟨a, o, r, h1, h2, h3, h4, h5⟩ => by
    subst h4
    refine ⟨a, o, r, h1, h2, (q a List.mem_cons_self).trans h3, rfl, ?_⟩
    have step : ∀ {ds : List D} {vs : List V}, OwL (Ow K F H n) ds vs r → OwL (Ow K F H' n) ds vs r := fun {ds vs} w =>
      OwL.cong (fun d' _ v' r' z w' => Ow.heap (fun b mb => q b (List.mem_cons_of_mem _ (z b mb))) w') w
    cases d <;> cases o <;> first
      | exact h5.elim
      | exact step h5
      | exact ⟨h5.1, step h5.2⟩
      | exact ⟨h5.1, h5.2.1, step h5.2.2⟩
/-- more is frozen, not what is owned here -/
theorem Ow.more : ∀ {n : Nat} {d : D} {v : V} {fp : List Addr}, Ex F F' → (∀ a ∈ fp, F' a = none) → Ow K F H n d v fp → Ow K F' H n d v fp
  | 0, d, v, _, e, _, h => ⟨h.1, Rp.mono e d v h.2⟩
  | n + 1, d, v, _, e, q, ⟨a, o, r, h1, h2, h3, h4, h5⟩ => by
    subst h4
    refine ⟨a, o, r, h1, q a List.mem_cons_self, h3, rfl, ?_⟩
    have step : ∀ {ds : List D} {vs : List V}, OwL (Ow K F H n) ds vs r → OwL (Ow K F' H n) ds vs r := fun {ds vs} w =>
      OwL.cong (fun d' _ v' r' z w' => Ow.more e (fun b mb => q b (List.mem_cons_of_mem _ (z b mb))) w') w
    cases d <;> cases o <;> first
      | exact h5.elim
      | exact step h5
      | exact ⟨h5.1, step h5.2⟩
      | exact ⟨h5.1, h5.2.1, step h5.2.2⟩
end

/-! ### a def's promise -/
def spD (K : Fg) (m : List D → M Sv) : Sp := fun vs H Q E => ∃ F ds, Ex F H ∧ RpL K F ds vs ∧ Out (m ds) (EvOk K F H Q) (fun e => ∀ cls dd F' H', Gr F H F' H' → ExR K H F' H' cls dd e → E cls dd H')
def env0 (N : List Str) (ds : List D) : Env := ds.map (fun d => some ((0, d) : Sv)) ++ List.replicate (N.length - ds.length) none
def runG (N : List Str) (n : Nat) (g : Gs) (ds : List D) : M Sv := if ds.length = n then (match g (env0 N ds) with
  | some (.nx _) => M.ok (0, .non)
  | some (.rt x) => M.ok x
  | some (.er e _) => M.er e
  | _ => M.no) else M.no
theorem SR.start {K : Fg} {F H : Hp} {N : List Str} {ds : List D} {vs : List V} (e : Ex F H) (r : RpL K F ds vs) : SR K F H F H (L2.start N vs) (env0 N ds) := by
  refine ⟨Gr.refl e, ?_, fun _ => [], fun i n d h => ?_, fun _ => List.nodup_nil, (fun _ _ _ h => nomatch h), (fun _ _ h => nomatch h)⟩
  · unfold env0 L2.start
    simp [r.len]
  · unfold env0 at h
    unfold L2.start
    by_cases l : i < ds.length
    · rw [List.getElem?_append_left (by simpa using l), List.getElem?_map] at h
      cases q : ds[i]? with
      | none => rw [q] at h; cases h
      | some d' =>
        rw [q] at h; cases h
        obtain ⟨v, hv, rv⟩ := r.get q
        exact ⟨v, by rw [List.getElem?_append_left (by rw [List.length_map, ← r.len]; exact l), List.getElem?_map, hv]; rfl, rfl, rv⟩
    · rw [List.getElem?_append_right (by simpa using l)] at h
      have := List.getElem?_eq_some_iff.mp h
      obtain ⟨h1, h2⟩ := this
      rw [List.getElem_replicate] at h2
      cases h2
section
variable {P : Program} {w : World} {K : Fg} {mg : Str → Option Value} {base : Heap}
theorem fn_D {x qual : Str} {st : Stmt} {f : Addr} {fd : FuncData} {N ps : List Str} {k : Nat} {g : Gs} (F : Fun K x qual st f fd) (S : FnScope N ps (defScope st))
    (hb : ∀ (cdv : Value) (A : Around) (outer : List PySem.Env) (s : Shared) (H : Hp) (E : XK), Room k (A.deeper (envOfC qual (defScope st) s.heap.objs.size f cdv)) →
      PSs (cxOf (L2.CX P w) P w K mg base N qual (defScope st) f cdv A outer s H E) (defBody st) (tS K (fun cls d _ H => E cls d H) g)) :
    FnOk P w K mg base (L2.CX P w) (k + 1) f fd ps (spD K (runG N ps.length g)) := by
  refine F.okX S (fun vs H Q E h => ?_) (fun cdv A outer s H vs Q E hr h => ⟨_, hb cdv A outer s H E hr, ?_⟩)
  · obtain ⟨F', ds, _, r, o⟩ := h
    by_cases c : ds.length = ps.length
    · rw [← r.len]; exact c
    · unfold runG at o; rw [if_neg c] at o; exact (Out.no o).elim
  · obtain ⟨F', ds, e, r, o⟩ := h
    unfold runG at o
    by_cases c : ds.length = ps.length
    · rw [if_pos c] at o
      cases q : g (env0 N ds) with
      | none => rw [q] at o; exact (Out.no o).elim
      | some fl =>
        rw [q] at o
        refine ⟨F', H, F', _, fl, SR.start e r, q, ?_⟩
        cases fl with
        | nx env => exact fun σ F1 H1 _ s1 => (Out.ok o rfl).z s1.g rfl
        | rt v => exact fun v F1 H1 fp g1 o1 nd nw => (Out.ok o rfl) v F1 H1 fp g1 o1 nd nw
        | er e1 env =>
          rcases o with ⟨_, e2, _⟩ | ⟨e2, e3, k2⟩
          · cases (Option.some.inj e2)
          · cases (Except.error.inj (Option.some.inj e3))
            exact fun cls dd σ F1 H1 _ s1 r1 => k2 cls dd F1 H1 s1.g r1
        | bk env => exact (Out.no o).elim
        | ct env => exact (Out.no o).elim
    · rw [if_neg c] at o; exact (Out.no o).elim
theorem spD.imp {m m' : List D → M Sv} (h : ∀ ds r, m' ds = some r → m ds = some r) (vs : List V) (H : Hp) (Q : VK) (E : XK) (q : spD K m' vs H Q E) : spD K m vs H Q E := by
  obtain ⟨F, ds, e, r, o⟩ := q
  refine ⟨F, ds, e, r, ?_⟩
  rcases o with ⟨x, e1, k⟩ | ⟨x, e1, k⟩
  · exact .inl ⟨x, h _ _ e1, k⟩
  · exact .inr ⟨x, h _ _ e1, k⟩
end

/-! ### calls -/
def lv0 (xs : List Sv) : Bool := xs.all fun x => x.1 == 0
def flatX (e : XD) : Bool := match e.fld with | none => true | some (_, x) => flatN x.1 x.2
/-- what a call gives: of arguments that are lent, nothing but flat data comes back -/
def clR (xs : List Sv) (r : M Sv) : M Sv := match r with
  | none => none
  | some (.ok x) => if (lv0 xs || flatN x.1 x.2) = true then M.ok x else M.no
  | some (.error e) => if (lv0 xs || flatX e) = true then M.er e else M.no
def fCall (m : List D → M Sv) (gs : Env → M (List Sv)) : Env → M Sv := fun env => bd (gs env) fun xs => clR xs (m (xs.map (·.2)))
section
variable {X : Cx} {K : Fg} {W : WX} {gs : Env → M (List Sv)} {F H F' H' : Hp}
theorem Al.frozen : ∀ {xs : List Sv} {vs : List V} {fp : List Addr} {G : Hp}, Ex F G → (∀ a ∈ fp, G a = H a) → Al K F H xs vs fp → RpL K G (xs.map (·.2)) vs
  | [], _, _, _, _, _, h => h.1
  | x :: xs, _, _, G, e, q, ⟨v, r, f1, f2, h1, h2, h3, h4⟩ => by
    subst h2
    exact ⟨v, r, h1, Ow.frozen e (fun a m => q a (List.mem_append_left _ m)) h3, Al.frozen e (fun a m => q a (List.mem_append_right _ m)) h4⟩
theorem Al.lv0 : ∀ {xs : List Sv} {vs : List V} {fp : List Addr}, lv0 xs = true → Al K F H xs vs fp → fp = []
  | [], _, _, _, h => h.2
  | x :: xs, _, _, q, ⟨v, r, f1, f2, h1, h2, h3, h4⟩ => by
    unfold DP.lv0 at q
    rw [List.all_cons, Bool.and_eq_true] at q
    have e : x.1 = 0 := beq_iff_eq.mp q.1
    rw [e] at h3
    rw [h2, h3.1, Al.lv0 q.2 h4]; rfl
/-- F without what is at fp -/
def cut (F : Hp) (fp : List Addr) : Hp := fun a => if a ∈ fp then none else F a
theorem Gr.lent {fp : List Addr} {F2 H2 : Hp} (z : ∀ a ∈ fp, F a = none) (g : Gr (DP.frz F H fp) H F2 H2) : Gr F H (cut F2 fp) H2 where
  ff := fun a o e => by
    have m : a ∉ fp := fun m => by rw [z a m] at e; cases e
    show (if a ∈ fp then none else F2 a) = some o
    rw [if_neg m]
    exact g.ff a o (by rw [frz_out m]; exact e)
  hh := g.hh
  fh := fun a o e => by
    have e' : (if a ∈ fp then none else F2 a) = some o := e
    by_cases m : a ∈ fp
    · rw [if_pos m] at e'; cases e'
    · rw [if_neg m] at e'; exact g.fh a o e'
  nw := fun a o e => by
    show (if a ∈ fp then none else F2 a) = F a
    by_cases m : a ∈ fp
    · rw [if_pos m, z a m]
    · rw [if_neg m, g.nw a o e, frz_out m]
theorem call_of {m : List D → M Sv} {σ : L2.St} {Q : VK} (q : tD K W (fCall m gs) σ H Q) : tCallS (spD K m) (WE W) (tAw K W gs) σ H Q := by
  obtain ⟨F0, H0, F, env, s, o⟩ := q
  have o : Out (fCall m gs env) (EvOk K F H Q) (ExOk K F H W σ) := o
  refine tAw.out s (Out.imp o.bd (fun xs ox => ?_) fun _ k => k)
  intro vs F1 H1 fp g1 w1
  have z : ∀ a ∈ fp, F1 a = none := fun a m => (w1.fp a m).1
  refine ⟨frz F1 H1 fp, xs.map (·.2), frz_fh g1.fh, Al.frozen (frz_ex z) (fun a m => frz_in m) w1, ?_⟩
  unfold clR at ox
  rcases q1 : m (xs.map (·.2)) with _ | e | x
  · rw [q1] at ox; exact (Out.no ox).elim
  · rw [q1] at ox
    obtain ⟨c, ox⟩ := Out.iff (show Out (if (lv0 xs || flatX e) = true then M.er e else M.no) _ _ from ox)
    refine .inr ⟨e, q1, fun cls dd F2 H2 g2 r2 => ?_⟩
    rcases ox with ⟨y, e2, _⟩ | ⟨e2, e3, k2⟩
    · cases (Option.some.inj e2)
    · cases (Except.error.inj (Option.some.inj e3))
      refine k2.on g1 cls dd (cut F2 fp) H2 (Gr.lent z g2) ?_
      by_cases l : lv0 xs = true
      · have e := Al.lv0 l w1
        subst e
        have : cut F2 [] = F2 := by funext a; exact if_neg (by simp)
        rw [this]; exact r2
      · have fx : flatX e = true := by simpa [l] using c
        refine ⟨r2.1, ?_⟩
        obtain ⟨ec, fld⟩ := e
        cases fld with
        | none => trivial
        | some q =>
          obtain ⟨p, v, fq, h1, h2, h3, h4, h5, h6⟩ := r2.2
          refine ⟨p, v, fq, h1, h2, h3, Ow.flatN fx (fun a m => ?_) h4, h5, h6⟩
          show (if a ∈ fp then none else F2 a) = none
          by_cases mm : a ∈ fp
          · rw [if_pos mm]
          · rw [if_neg mm]; exact (h4.fp a m).1
  · rw [q1] at ox
    obtain ⟨c, ox⟩ := Out.iff (show Out (if (lv0 xs || flatN x.1 x.2) = true then M.ok x else M.no) _ _ from ox)
    refine .inl ⟨x, q1, fun v F2 H2 fq g2 w2 nd nw => ?_⟩
    refine (ox.ok rfl).on g1 v (cut F2 fp) H2 fq (Gr.lent z g2) ?_ nd nw
    by_cases l : lv0 xs = true
    · have e := Al.lv0 l w1
      subst e
      have : cut F2 [] = F2 := by funext a; exact if_neg (by simp)
      rw [this]; exact w2
    · have fx : flatN x.1 x.2 = true := by simpa [l] using c
      refine Ow.flatN fx (fun a m => ?_) w2
      show (if a ∈ fp then none else F2 a) = none
      by_cases mm : a ∈ fp
      · rw [if_pos mm]
      · rw [if_neg mm]; exact (w2.fp a m).1
theorem pd_call {CX : CXT} {k : Nat} {f : Addr} {fd : FuncData} {ps : List Str} {m : List D → M Sv} {x : Str} {p pos : Pos} {e : Expr} {es : List Expr} (G : FnOk X.prog X.w X.K X.mg X.base CX k f fd ps (spD X.K m)) (hr : Room k X.A) (hm : X.mg x = some (.ref f)) (hk : PySem.W.keepIn X.K (.ref f) = true) (hb : Binds X.K fd ps []) (hx : ∀ σ, PassesAt CX X σ (WE W σ))
    (ha : PA X (e :: es) (tAw X.K W gs)) (hg : Gl X x := by rfl) (hdb : (x == ("__debug__" : Str)) = false := by decide) (he : starEach (e :: es) X.env = (false, eval e X.env) :: starEach es X.env := by rfl) (hpl : (backTo pos (starEach es X.env)).any (·.1) = false := by rfl) :
    PE X (.Call (.Name x p) (e :: es) [] pos) (tD X.K W (fCall m gs)) := PE.imp (pe_callS G hr hg hm hk hb hx ha hdb he hpl) fun _ _ _ q => call_of q
end

/-! ### while -/
def whF (t : Env → M Bool) (g : Gs) : Nat → Gs
  | 0, _ => none
  | n + 1, env => gM (t env) env fun b => if b then (match g env with
    | some (.nx e2) => whF t g n e2
    | some (.ct e2) => whF t g n e2
    | some (.bk e2) => some (.nx e2)
    | r => r) else some (.nx env)
theorem whF_up (t : Env → M Bool) (g : Gs) : ∀ (n : Nat) (env : Env) (r : Fl), whF t g n env = some r → whF t g (n + 1) env = some r := by
  intro n
  induction n with
  | zero => intro env r h; cases h
  | succ n ih =>
    intro env r h
    unfold whF at h ⊢
    rcases gM_some h with ⟨b, e1, e2⟩ | ⟨x, e1, e2⟩
    · rw [e1]
      show (if b = true then _ else _) = some r
      cases b with
      | false => exact e2
      | true =>
        rw [if_pos rfl] at e2 ⊢
        rcases q : g env with _ | fl
        · rw [q] at e2; cases e2
        · rw [q] at e2
          cases fl with
          | nx e3 => exact ih _ _ e2
          | ct e3 => exact ih _ _ e2
          | _ => exact e2
    · rw [e1, e2]; rfl
theorem whF_le (t : Env → M Bool) (g : Gs) {n m : Nat} (h : n ≤ m) {env : Env} {r : Fl} (q : whF t g n env = some r) : whF t g m env = some r := by
  induction h with
  | refl => exact q
  | step _ ih => exact whF_up t g _ _ _ ih
open Classical in
noncomputable def gWh (t : Env → M Bool) (g : Gs) : Gs := fun env => if h : ∃ n r, whF t g n env = some r then some (Classical.choose (Classical.choose_spec h)) else none
theorem gWh_of {t : Env → M Bool} {g : Gs} {n : Nat} {env : Env} {r : Fl} (h : whF t g n env = some r) : gWh t g env = some r := by
  have ex : ∃ n r, whF t g n env = some r := ⟨n, r, h⟩
  unfold gWh
  rw [dif_pos ex]
  have q := Classical.choose_spec (Classical.choose_spec ex)
  have a := whF_le t g (Nat.le_max_left (Classical.choose ex) n) q
  have b := whF_le t g (Nat.le_max_right (Classical.choose ex) n) h
  rw [a] at b
  exact b
theorem gWh_some {t : Env → M Bool} {g : Gs} {env : Env} {r : Fl} (h : gWh t g env = some r) : ∃ n, whF t g n env = some r := by
  unfold gWh at h
  by_cases ex : ∃ n r, whF t g n env = some r
  · rw [dif_pos ex] at h
    have q := Classical.choose_spec (Classical.choose_spec ex)
    cases h
    exact ⟨_, q⟩
  · rw [dif_neg ex] at h; cases h
section
variable {X : Cx} {K : Fg} {W : WX} {c : Expr} {body : List Stmt} {pos : Pos} {t : Env → M Bool} {g : Gs}
theorem sd_while (hp : PassesOwn (model X.prog X.w) X.A X.env X.xe) (hc : PT X c (tB' K W t)) (hb : PSs X body (tS K W g)) : PS X (.While c body [] pos) (tS K W (gWh t g)) := PS.imp (ps_while hp hc hb) fun D σ H ⟨F0, H0, F, env, r, s, e, k⟩ => by
  obtain ⟨n, e⟩ := gWh_some e
  refine ⟨fun m σ2 H2 => ∃ F2 env2, Ex F F2 ∧ SR K F0 H0 F2 H2 σ2 env2 ∧ whF t g m env2 = some r, ⟨n, F, env, Ex.rfl' _, s, e⟩, ?_⟩
  rintro m σ2 H2 ⟨F2, env2, x2, s2, q2⟩
  cases m with
  | zero => cases q2
  | succ m =>
    unfold whF at q2
    rcases gM_some q2 with ⟨b, e1, e2⟩ | ⟨x, e1, e2⟩
    · refine tB'.out s2 (.inl ⟨b, e1, fun F3 H3 g3 => ?_⟩)
      have s3 := s2.on g3
      have x3 := x2.tr g3.ff
      cases b with
      | false =>
        cases e2
        exact k σ2 F3 H3 x3 s3
      | true =>
        rw [if_pos rfl] at e2
        refine ⟨fun σ4 H4 => ∃ F4 env4, Ex F F4 ∧ SR K F0 H0 F4 H4 σ4 env4 ∧ whF t g m env4 = some r, fun σ4 H4 n4 => ⟨m, Nat.lt_succ_self m, n4⟩, ?_⟩
        rcases q : g env2 with _ | fl
        · rw [q] at e2; cases e2
        · rw [q] at e2
          refine ⟨F0, H0, F3, env2, fl, s3, q, ?_⟩
          cases fl with
          | nx env4 => exact fun σ4 F4 H4 y s4 => ⟨F4, env4, x3.tr y, s4, e2⟩
          | ct env4 => exact fun σ4 F4 H4 y s4 => ⟨F4, env4, x3.tr y, s4, e2⟩
          | bk env4 => cases e2; exact k.on x3
          | rt v => cases e2; exact k
          | er x y => cases e2; exact k.on x3
    · subst e2
      exact tB'.out s2 (.inr ⟨x, e1, FlOk.er s2 (k.on x2)⟩)
end

/-! ### freezing a slot -/
def fzE (i : Nat) (env : Env) : Env := match env[i]? with
  | some (some (_, d)) => env.set i (some (0, d))
  | _ => env
theorem SR.fz {K : Fg} {F0 H0 F H : Hp} {σ : L2.St} {env : Env} (s : SR K F0 H0 F H σ env) (i : Nat) : ∃ F', Ex F F' ∧ SR K F0 H0 F' H σ (fzE i env) := by
  unfold fzE
  rcases q : env[i]? with _ | _ | ⟨n, d⟩
  · exact ⟨F, Ex.rfl' _, s⟩
  · exact ⟨F, Ex.rfl' _, s⟩
  · obtain ⟨fp, h1, h2, h3, h4⟩ := s.ex
    obtain ⟨v, e1, o⟩ := h1 i n d q
    have z : ∀ a ∈ fp i, F a = none := fun a m => (o.fp a m).1
    refine ⟨frz F H (fp i), frz_ex z, ⟨s.g.ff.tr (frz_ex z), s.g.hh, frz_fh s.fh, fun a u e => ?_⟩, by simpa using s.len, fun j => if j = i then [] else fp j, fun j m d' e => ?_, fun j => ?_, fun j k a ha hb => ?_, fun j a ha => ?_⟩
    · rw [frz_out fun m => by rw [h4 i a m] at e; cases e]
      exact s.g.nw a u e
    · dsimp only
      by_cases c : j = i
      · subst c
        rw [if_pos rfl]
        rw [List.getElem?_set_self (List.getElem?_eq_some_iff.mp q).1] at e
        cases e
        exact ⟨v, e1, rfl, Ow.frozen (frz_ex z) (fun a m => frz_in m) o⟩
      · rw [if_neg c]
        rw [List.getElem?_set_ne (Ne.symm c)] at e
        obtain ⟨u, e2, o2⟩ := h1 j m d' e
        refine ⟨u, e2, o2.more (frz_ex z) fun a ma => ?_⟩
        rw [frz_out fun mi => c (h3 j i a ma mi)]
        exact (o2.fp a ma).1
    · dsimp only
      by_cases c : j = i
      · rw [if_pos c]; exact List.nodup_nil
      · rw [if_neg c]; exact h2 j
    · dsimp only at ha hb
      by_cases c : j = i
      · rw [if_pos c] at ha; cases ha
      · by_cases c' : k = i
        · rw [if_pos c'] at hb; cases hb
        · rw [if_neg c] at ha; rw [if_neg c'] at hb; exact h3 j k a ha hb
    · dsimp only at ha
      by_cases c : j = i
      · rw [if_pos c] at ha; cases ha
      · rw [if_neg c] at ha; exact h4 j a ha
def gFz (i : Nat) (g : Gs) : Gs := fun env => g (fzE i env)
theorem tS_fz {K : Fg} {W : WX} {g : Gs} (i : Nat) {D : Ends} {σ : L2.St} {H : Hp} (q : tS K W (gFz i g) D σ H) : tS K W g D σ H := by
  obtain ⟨F0, H0, F, env, r, s, e, k⟩ := q
  obtain ⟨F', x, s'⟩ := s.fz i
  exact ⟨F0, H0, F', _, r, s', e, k.on x⟩
theorem sd_fz {X : Cx} {K : Fg} {W : WX} {g : Gs} {st : Stmt} (i : Nat) (p : PS X st (tS K W g)) : PS X st (tS K W (gFz i g)) := PS.imp p fun _ _ _ q => tS_fz i q
theorem sd_fzs {X : Cx} {K : Fg} {W : WX} {g : Gs} {st : List Stmt} (i : Nat) (p : PSs X st (tS K W g)) : PSs X st (tS K W (gFz i g)) := PSs.imp p fun _ _ _ q => tS_fz i q
end DP
/-! DP: dicts; all operands of +, *, <, in, []; owned lists and dicts that change. -/
namespace DP
open PySem L2

/-! ### tables as pairs -/
section
variable {κ : Type} [DecidableEq κ]
def getP (kvs : List (κ × D)) (k : κ) : Option D := (kvs.find? fun kv => decide (kv.1 = k)).map (·.2)
def putP (kvs : List (κ × D)) (k : κ) (v : D) : List (κ × D) :=
  if (kvs.any fun kv => decide (kv.1 = k)) = true then kvs.map (fun kv => if kv.1 = k then (kv.1, v) else kv) else kvs ++ [(k, v)]
def delP (kvs : List (κ × D)) (k : κ) : List (κ × D) := kvs.filter fun kv => decide (kv.1 ≠ k)
/-- a table of values stands for a table of data -/
def PR (K : Fg) (F : Hp) (kvs : List (κ × D)) (ws : List (κ × V)) : Prop := ws.map (·.1) = kvs.map (·.1) ∧ RpL K F (kvs.map (·.2)) (ws.map (·.2))
variable {K : Fg} {F : Hp}
theorem PR.nil : PR K F ([] : List (κ × D)) [] := ⟨rfl, rfl⟩
theorem PR.cons_inv {p : κ × D} {kvs : List (κ × D)} {ws : List (κ × V)} (h : PR K F (p :: kvs) ws) : ∃ q ws', ws = q :: ws' ∧ q.1 = p.1 ∧ Rp K F p.2 q.2 ∧ PR K F kvs ws' := by
  rcases ws with _ | ⟨q, ws⟩
  · have := h.1; simp at this
  · obtain ⟨h1, v, r, h2, h3, h4⟩ := h
    rw [List.map_cons] at h2
    rw [List.map_cons, List.map_cons] at h1
    injection h1 with e1 e2
    injection h2 with e3 e4
    subst e3 e4
    exact ⟨q, ws, rfl, e1, h3, e2, h4⟩
theorem PR.cons {p : κ × D} {q : κ × V} {kvs : List (κ × D)} {ws : List (κ × V)} (e : q.1 = p.1) (r : Rp K F p.2 q.2) (h : PR K F kvs ws) : PR K F (p :: kvs) (q :: ws) :=
  ⟨by rw [List.map_cons, List.map_cons, e, h.1], ⟨q.2, _, rfl, r, h.2⟩⟩
theorem PR.nil_inv {ws : List (κ × V)} (h : PR K F ([] : List (κ × D)) ws) : ws = [] := by
  have := h.1
  simpa using this
theorem PR.len {kvs : List (κ × D)} {ws : List (κ × V)} (h : PR K F kvs ws) : ws.length = kvs.length := by
  have := congrArg List.length h.1
  simpa using this
theorem PR.get : ∀ {kvs : List (κ × D)} {ws : List (κ × V)} (k : κ), PR K F kvs ws → (∀ d, getP kvs k = some d → ∃ v, valV ws k = some v ∧ Rp K F d v) ∧ (getP kvs k = none → valV ws k = none)
  | [], ws, k, h => by
    rw [h.nil_inv]
    exact ⟨(fun d e => nomatch e), fun _ => rfl⟩
  | p :: kvs, ws, k, h => by
    obtain ⟨q, ws', rfl, e, r, t⟩ := h.cons_inv
    have ih := PR.get k t
    by_cases c : p.1 = k
    · have c' : q.1 = k := e.trans c
      have g : getP (p :: kvs) k = some p.2 := by simp [getP, List.find?_cons, c]
      rw [g, valV_pos c']
      exact ⟨fun d e => by cases e; exact ⟨_, rfl, r⟩, fun z => by cases z⟩
    · have c' : ¬ q.1 = k := fun z => c (e.symm.trans z)
      have g : getP (p :: kvs) k = getP kvs k := by simp [getP, List.find?_cons, c]
      rw [g, valV_neg c']
      exact ih
theorem PR.any : ∀ {kvs : List (κ × D)} {ws : List (κ × V)} (k : κ), PR K F kvs ws → (ws.any fun kv => decide (kv.1 = k)) = kvs.any fun kv => decide (kv.1 = k)
  | [], ws, k, h => by rw [h.nil_inv]; rfl
  | p :: kvs, ws, k, h => by
    obtain ⟨q, ws', rfl, e, r, t⟩ := h.cons_inv
    rw [List.any_cons, List.any_cons, PR.any k t, e]
theorem PR.repl {d : D} {v : V} (k : κ) (rv : Rp K F d v) : ∀ {kvs : List (κ × D)} {ws : List (κ × V)}, PR K F kvs ws → PR K F (kvs.map fun kv => if kv.1 = k then (kv.1, d) else kv) (ws.map fun kv => if kv.1 = k then (kv.1, v) else kv)
  | [], ws, h => by rw [h.nil_inv]; exact .nil
  | p :: kvs, ws, h => by
    obtain ⟨q, ws', rfl, e, r, t⟩ := h.cons_inv
    rw [List.map_cons, List.map_cons]
    by_cases c : p.1 = k
    · rw [if_pos c, if_pos (e.trans c)]
      exact .cons e rv (PR.repl k rv t)
    · rw [if_neg c, if_neg fun z => c (e.symm.trans z)]
      exact .cons e r (PR.repl k rv t)
theorem PR.snoc {d : D} {v : V} {k : κ} (rv : Rp K F d v) : ∀ {kvs : List (κ × D)} {ws : List (κ × V)}, PR K F kvs ws → PR K F (kvs ++ [(k, d)]) (ws ++ [(k, v)])
  | [], ws, h => by rw [h.nil_inv]; exact .cons rfl rv .nil
  | p :: kvs, ws, h => by
    obtain ⟨q, ws', rfl, e, r, t⟩ := h.cons_inv
    exact .cons e r (PR.snoc rv t)
theorem PR.put {kvs : List (κ × D)} {ws : List (κ × V)} {d : D} {v : V} (k : κ) (h : PR K F kvs ws) (rv : Rp K F d v) : PR K F (putP kvs k d) (putK ws k v) := by
  unfold putP putK
  rw [h.any k]
  split
  · exact h.repl k rv
  · exact h.snoc rv
theorem PR.del (k : κ) : ∀ {kvs : List (κ × D)} {ws : List (κ × V)}, PR K F kvs ws → PR K F (delP kvs k) (dropK ws k)
  | [], ws, h => by rw [h.nil_inv]; exact .nil
  | p :: kvs, ws, h => by
    obtain ⟨q, ws', rfl, e, r, t⟩ := h.cons_inv
    unfold delP dropK
    rw [List.filter_cons, List.filter_cons, e]
    by_cases c : p.1 = k
    · rw [decide_eq_false (fun z : p.1 ≠ k => z c)]
      exact PR.del k t
    · rw [decide_eq_true (show p.1 ≠ k from c)]
      exact .cons e r (PR.del k t)
theorem zip_fst : ∀ {ks : List κ} {ds : List D}, ks.length = ds.length → (ks.zip ds).map (·.1) = ks
  | [], ds, _ => by simp
  | k :: ks, [], h => by cases h
  | k :: ks, d :: ds, h => by
    rw [List.zip_cons_cons, List.map_cons, zip_fst (Nat.succ.inj h)]
theorem zip_snd : ∀ {ks : List κ} {ds : List D}, ks.length = ds.length → (ks.zip ds).map (·.2) = ds
  | [], [], _ => rfl
  | [], d :: ds, h => by cases h
  | k :: ks, [], h => by cases h
  | k :: ks, d :: ds, h => by
    rw [List.zip_cons_cons, List.map_cons, zip_snd (Nat.succ.inj h)]
theorem PR.zip {ks : List κ} {ds : List D} {ws : List (κ × V)} (h1 : ws.map (·.1) = ks) (h2 : RpL K F ds (ws.map (·.2))) : PR K F (ks.zip ds) ws := by
  have l : ks.length = ds.length := by rw [h2.len, ← h1]; simp
  exact ⟨by rw [zip_fst l, h1], by rw [zip_snd l]; exact h2⟩
end
def mkT (kvs : List (List Key × D)) : D := .dT (kvs.map (·.1)) (kvs.map (·.2))
def mkK (kvs : List (Key × D)) : D := .dK (kvs.map (·.1)) (kvs.map (·.2))
/-! ### keys -/
def keyD : D → Option Key | .int i => some (.inl i) | .str x => some (.inr x) | _ => none
def keyL : List D → Option (List Key)
  | [] => some []
  | d :: ds => (keyD d).bind fun k => (keyL ds).map (k :: ·)
def keyT : D → Option (List Key) | .tup ds => keyL ds | _ => none
section
variable {K : Fg} {F H : Hp} {X : Cx} {W : WX} {Q : VK}
theorem keyD_v {d : D} {k : Key} {n : Nat} {v : V} {fp : List Addr} (h : keyD d = some k) (w : Ow K F H n d v fp) : v = kV k := by
  cases d <;> first | (cases h; done) | skip
  · cases h; exact w.int
  · cases h; exact w.str
theorem keyL_v : ∀ {ds : List D} {ks : List Key} {vs : List V}, keyL ds = some ks → RpL K F ds vs → vs = ks.map kV
  | [], ks, vs, h, r => by cases h; exact r
  | d :: ds, ks, vs, h, ⟨v, r, h1, h2, h3⟩ => by
    unfold keyL at h
    cases q : keyD d with
    | none => rw [q] at h; cases h
    | some k =>
      rw [q, Option.bind_some] at h
      cases q2 : keyL ds with
      | none => rw [q2] at h; cases h
      | some ks' =>
        rw [q2] at h; cases h
        rw [h1, keyD_v (H := F) q (Ow.z h2), keyL_v q2 h3]; rfl
theorem keyT_v {d : D} {k : List Key} {n : Nat} {v : V} {fp : List Addr} (e : Ex F H) (h : keyT d = some k) (w : Ow K F H n d v fp) : ∃ b, v = .ref b ∧ H b = some (.tup (k.map kV)) := by
  cases d <;> first | (cases h; done) | skip
  obtain ⟨_, b, vs, rfl, h2, h3⟩ := w.tup e
  rw [keyL_v h h3] at h2
  exact ⟨b, rfl, h2⟩
/-- what a dict has at a key: none: it is no dict, or no key; some none: it isn't there -/
def dGet (p : Sv) (k : D) : Option (Option D) := match p with
  | (n, .dK ks ds) => if n ≤ 1 then (keyD k).map fun k => getP (ks.zip ds) k else none
  | (n, .dT ks ds) => if n ≤ 1 then (keyT k).map fun k => getP (ks.zip ds) k else none
  | _ => none
theorem dGet_v {p q : Sv} {o : Option D} {v u : V} {fp fq : List Addr} (e : Ex F H) (w : Ow K F H p.1 p.2 v fp) (w2 : Ow K F H q.1 q.2 u fq) (h : dGet p q.2 = some o) :
    ∃ a, v = .ref a ∧ match o with | none => DGet H a u none | some d => ∃ x, DGet H a u (some x) ∧ Rp K F d x := by
  obtain ⟨n, d⟩ := p
  cases d <;> first | (cases h; done) | skip
  · rename_i ks ds
    have h' : (if n ≤ 1 then (keyD q.2).map fun k => getP (ks.zip ds) k else none) = some o := h
    by_cases c : n ≤ 1
    · rw [if_pos c] at h'
      cases qk : keyD q.2 with
      | none => rw [qk] at h'; cases h'
      | some k =>
        rw [qk] at h'
        have ho : getP (ks.zip ds) k = o := Option.some.inj h'
        obtain ⟨a, ws, rfl, h2, h3, h4⟩ := w.dK e c
        have pr := PR.zip h3 h4
        have g := pr.get k
        have eu := keyD_v qk w2
        refine ⟨a, rfl, ?_⟩
        cases o with
        | none => exact .inl ⟨ws, k, .inl h2, eu, (g.2 ho).symm⟩
        | some d =>
          obtain ⟨x, hx, rx⟩ := g.1 d ho
          exact ⟨x, .inl ⟨ws, k, .inl h2, eu, hx.symm⟩, rx⟩
    · rw [if_neg c] at h'; cases h'
  · rename_i ks ds
    have h' : (if n ≤ 1 then (keyT q.2).map fun k => getP (ks.zip ds) k else none) = some o := h
    by_cases c : n ≤ 1
    · rw [if_pos c] at h'
      cases qk : keyT q.2 with
      | none => rw [qk] at h'; cases h'
      | some k =>
        rw [qk] at h'
        have ho : getP (ks.zip ds) k = o := Option.some.inj h'
        obtain ⟨a, ws, rfl, h2, h3, h4⟩ := w.dT e c
        have pr := PR.zip h3 h4
        have g := pr.get k
        obtain ⟨b, eu, hb⟩ := keyT_v e qk w2
        refine ⟨a, rfl, ?_⟩
        cases o with
        | none => exact .inr ⟨ws, k, b, .inl h2, eu, hb, (g.2 ho).symm⟩
        | some d =>
          obtain ⟨x, hx, rx⟩ := g.1 d ho
          exact ⟨x, .inr ⟨ws, k, b, .inl h2, eu, hb, hx.symm⟩, rx⟩
    · rw [if_neg c] at h'; cases h'
/-! ### [] -/
def rIxD : R2 := fun x y H Q => ∃ a v, x = .ref a ∧ DGet H a y (some v) ∧ Q v H
theorem ix_dict (hu : X.A.units + 1 < cLine) : IxR X rIxD := by
  intro value slice pins s σ H x y v u Q I rx ry h hs
  obtain ⟨a, z, ex, g, q⟩ := h
  subst ex
  cases rx
  exact PyProof.Rows.tail_any (dict_typeIs I g) PySem.F.slot_dict_getitem.lookup (d_getItem hu I g ry fun w' s' I' r' => ⟨z, H, I', r', q⟩) hs
def oIxD : Sv → Sv → Option Sv := fun p q => match dGet p q.2 with | some (some d) => some (0, d) | _ => none
theorem vIxD : VR2 K rIxD oIxD := by
  intro F H x y p q fp fq z Q e w1 w2 h k
  unfold oIxD at h
  rcases g : dGet p q.2 with _ | _ | d
  · rw [g] at h; cases h
  · rw [g] at h; cases h
  · rw [g] at h; cases h
    obtain ⟨a, ea, v, gv, rv⟩ := dGet_v e w1 w2 g
    exact ⟨a, v, ea, gv, k.fl e rv⟩
def rIxA (K : Fg) : R2 := fun x y H Q => rIx K x y H Q ∨ rIxD x y H Q
def oIxA : Sv → Sv → Option Sv := oOr oIx oIxD
theorem vIxA : VR2 K (rIxA K) oIxA := VR2.or vIx vIxD
theorem ix_all (hu : X.A.units + 1 < cLine) : IxR X (rIxA X.K) := ix_seq.or (ix_dict hu)
theorem pd_sub {a b : Expr} {f g : Env → M Sv} {pos : Pos} (hu : X.A.units + 1 < cLine) (ha : PE X a (tW X.K W f)) (hb : PE X b (tW X.K W g)) (hs : PlainIx b := by intro _ _; rfl) : PE X (.Subscript a b pos) (tD X.K W (f2 oIxA f g)) := PE.imp (pe_ix (ix_all hu) ha hb hs) fun _ _ _ t => t2_of vIxA t
/-! ### in -/
def rInD (neg : Bool) : R2 := fun y x H Q => ∃ a o, x = .ref a ∧ DGet H a y o ∧ Q (.bl (if neg then !o.isSome else o.isSome)) H
theorem op_inD (hu : X.A.units + 1 < cLine) : OpR X (compareOp .In) (rInD false) := by
  intro pins s σ H y x u v Q I ry rx h
  obtain ⟨a, o, ex, g, q⟩ := h
  subst ex
  cases rx
  exact d_in hu I g ry fun s' I' => ⟨.bl o.isSome, H, I', rfl, q⟩
theorem op_notInD (hu : X.A.units + 1 < cLine) : OpR X (compareOp .NotIn) (rInD true) := by
  intro pins s σ H y x u v Q I ry rx h
  obtain ⟨a, o, ex, g, q⟩ := h
  subst ex
  cases rx
  exact d_notIn hu I g ry fun s' I' => ⟨.bl (!o.isSome), H, I', rfl, q⟩
def oInD (neg : Bool) : Sv → Sv → Option Sv := fun q p => (dGet p q.2).map fun o => ((0, .bl (if neg then !o.isSome else o.isSome)) : Sv)
theorem vInD {neg : Bool} : VR2 K (rInD neg) (oInD neg) := by
  intro F H x y p q fp fq z Q e w1 w2 h k
  unfold oInD at h
  rcases g : dGet q p.2 with _ | o
  · rw [g] at h; cases h
  · rw [g] at h; cases h
    obtain ⟨a, ea, gg⟩ := dGet_v e w2 w1 g
    cases o with
    | none => exact ⟨a, none, ea, gg, k.fl e rfl⟩
    | some d =>
      obtain ⟨v, gv, rv⟩ := gg
      exact ⟨a, some v, ea, gv, k.fl e rfl⟩
def rInA (K : Fg) (neg : Bool) : R2 := fun x y H Q => (rInS' neg x y H Q ∨ rIn K neg x y H Q) ∨ rInD neg x y H Q
def oInA (neg : Bool) : Sv → Sv → Option Sv := oOr (oOr (oInS neg) (oIn neg)) (oInD neg)
theorem vInA {neg : Bool} : VR2 K (rInA K neg) (oInA neg) := VR2.or (VR2.or vInS vIn) vInD
theorem op_inA (hu : X.A.units + 1 < cLine) : OpR X (compareOp .In) (rInA X.K false) := (op_inS'.or op_in_seq).or (op_inD hu)
theorem op_notInA (hu : X.A.units + 1 < cLine) : OpR X (compareOp .NotIn) (rInA X.K true) := (op_notInS'.or op_notIn_seq).or (op_notInD hu)
/-! ### +, *, < -/
def rAddA (K : Fg) : R2 := fun x y H Q => ((rI0 (fun i j => .int (i + j)) x y H Q ∨ (∃ i j, x = .str i ∧ y = .str j ∧ i.length + j.length ≤ sizeLine ∧ Q (.str (i ++ j)) H)) ∨ rCat x y H Q) ∨ rCatT K x y H Q
def oAddA : Sv → Sv → Option Sv := oOr (oOr (oOr oAdd oCatS) oCatL) oCatT
theorem vAddA : VR2 K (rAddA K) oAddA := VR2.or (VR2.or (VR2.or vAdd vCatS) vCatL) vCatT
theorem op_addA : OpR X (binaryOp .Add) (rAddA X.K) := ((op_add.or op_add_str).or op_cat).or op_catT
/-- text * int -/
theorem rep_size (a : Array Nat) : ∀ (n : Nat) (acc : Array Nat), ((List.replicate n a).foldl (· ++ ·) acc).size = acc.size + n * a.size
  | 0, acc => by simp
  | n + 1, acc => by
    rw [List.replicate_succ, List.foldl_cons, rep_size a n, Array.size_append, Nat.succ_mul]
    omega
theorem rep_nil (a : Array Nat) (h : a.size = 0) : ∀ (n : Nat) (acc : Array Nat), (List.replicate n a).foldl (· ++ ·) acc = acc
  | 0, acc => rfl
  | n + 1, acc => by
    have e : a = #[] := Array.eq_empty_of_size_eq_zero h
    rw [List.replicate_succ, List.foldl_cons, rep_nil a h n, e, Array.append_empty]
def rRepS : R2 := fun x y H Q => ∃ z k, x = .str z ∧ y = .int k ∧ 0 ≤ k ∧ k ≤ 1000 ∧ z.length ≤ 1000 ∧ Q (.str ⟨(List.replicate k.toNat z.cps).foldl (· ++ ·) #[]⟩) H
theorem op_repS : OpR X (binaryOp .Mult) rRepS := by
  intro pins s σ H x y v u Q I rx ry h
  obtain ⟨z, k, rfl, rfl, k0, k1, hz, q⟩ := h
  obtain ⟨t, rfl⟩ := rx
  obtain ⟨t', rfl⟩ := ry
  have hz' : z.length ≤ 1000 := hz
  refine PySem.P.mul_str ?_ (fun h1 h2 => ?_) (fun h1 h2 => ?_) ?_
  · rw [decide_eq_false (by omega), decide_eq_false (by omega)]; rfl
  · have a : (1 : Int) ≤ k := by omega
    have hk : (9223372036854775 : Int) ≤ (2 ^ 63 - 1) / k := by
      rw [Int.le_ediv_iff_mul_le (by omega)]
      omega
    omega
  · unfold Builtin.Str.tooLong
    have : z.length * k.toNat ≤ 1000 * 1000 := Nat.mul_le_mul hz' (by omega)
    rw [decide_eq_false]
    have hs := sizeLine_eq
    omega
  · by_cases c : k < 1
    · rw [if_pos c]
      have e : k = 0 := by omega
      subst e
      exact ⟨Nat.zero_le _, ⟨.str _, H, I.tok _, ⟨_, rfl⟩, q⟩⟩
    · rw [if_neg c]
      by_cases c2 : (k == 1 || z.length == 0) = true
      · rw [if_pos c2]
        refine ⟨.str z, H, I, ⟨t, rfl⟩, ?_⟩
        have e : (⟨(List.replicate k.toNat z.cps).foldl (· ++ ·) #[]⟩ : Str) = z := by
          obtain ⟨cs⟩ := z
          rw [Bool.or_eq_true] at c2
          rcases c2 with c2 | c2
          · have : k = 1 := beq_iff_eq.mp c2
            subst this
            show (⟨#[] ++ cs⟩ : Str) = ⟨cs⟩
            rw [Array.empty_append]
          · have hs : cs.size = 0 := beq_iff_eq.mp c2
            have hc : cs = #[] := Array.eq_empty_of_size_eq_zero hs
            show (⟨(List.replicate k.toNat cs).foldl (· ++ ·) #[]⟩ : Str) = ⟨cs⟩
            rw [rep_nil cs hs, hc]
        rw [e] at q
        exact q
      · rw [if_neg c2]
        refine ⟨?_, .str _, H, I.tok _, ⟨_, rfl⟩, q⟩
        show ((List.replicate k.toNat z.cps).foldl (· ++ ·) #[]).size ≤ sizeLine
        rw [rep_size, sizeLine_eq]
        have hz2 : z.cps.size ≤ 1000 := hz'
        have : k.toNat * z.cps.size ≤ 1000 * 1000 := Nat.mul_le_mul (by omega) hz2
        show 0 + k.toNat * z.cps.size ≤ 16777216
        omega
def strRep (x : Str) (n : Nat) : Str := ⟨(List.replicate n x.cps).foldl (· ++ ·) #[]⟩
def oRepS : Sv → Sv → Option Sv := fun p q => match p.2, q.2 with
  | .str z, .int k => if 0 ≤ k ∧ k ≤ 1000 ∧ z.length ≤ 1000 then some (0, .str (strRep z k.toNat)) else none
  | _, _ => none
theorem vRepS : VR2 K rRepS oRepS := by
  intro F H x y p q fp fq z Q e w1 w2 h k
  obtain ⟨n, d⟩ := p
  obtain ⟨m, d'⟩ := q
  cases d <;> first | (cases h; done) | skip
  cases d' <;> first | (cases h; done) | skip
  rename_i s1 j
  have h' : (if 0 ≤ j ∧ j ≤ 1000 ∧ s1.length ≤ 1000 then some ((0, .str (strRep s1 j.toNat)) : Sv) else none) = some z := h
  by_cases c : 0 ≤ j ∧ j ≤ 1000 ∧ s1.length ≤ 1000
  · rw [if_pos c] at h'
    cases h'
    exact ⟨s1, j, w1.str, w2.int, c.1, c.2.1, c.2.2, k.fl e rfl⟩
  · rw [if_neg c] at h'; cases h'
def rMulA (K : Fg) : R2 := fun x y H Q => (rI CMul (fun i j => .int (i * j)) x y H Q ∨ rRep x y H Q) ∨ rRepS x y H Q
def oMulA : Sv → Sv → Option Sv := oOr (oOr oMul oRep) oRepS
theorem vMulA : VR2 K (rMulA K) oMulA := VR2.or (VR2.or vMul vRep) vRepS
theorem op_mulA : OpR X (binaryOp .Mult) (rMulA X.K) := (op_mul.or op_rep).or op_repS
def rLtA (K : Fg) : R2 := fun x y H Q => rI0 (fun i j => .bl (decide (i < j))) x y H Q ∨ rLtT K x y H Q
def oLtA : Sv → Sv → Option Sv := oOr oLt oLtT
theorem vLtA : VR2 K (rLtA K) oLtA := VR2.or vB vLtT
theorem op_ltA (hu : X.A.units < cLine) : OpR X (compareOp .Lt) (rLtA X.K) := op_lt.or (op_ltT hu)
def rIsA : R2 := fun x y H Q => (y = .non ∧ Q (.bl (decide (x = .non))) H) ∨ rIsB x y H Q
def rIsNotA : R2 := fun x y H Q => (y = .non ∧ Q (.bl (!decide (x = .non))) H) ∨ rNotB x y H Q
def oIsA : Sv → Sv → Option Sv := oOr oIs oIsB
def oIsNotA : Sv → Sv → Option Sv := oOr oIsNot oIsNotB
theorem vIsA : VR2 K rIsA oIsA := VR2.or vIs vIsB
theorem vIsNotA : VR2 K rIsNotA oIsNotA := VR2.or vIsNot vIsNotB
theorem op_isA : OpR X (compareOp .Is) rIsA := op_isN.or op_isBl
theorem op_isNotA : OpR X (compareOp .IsNot) rIsNotA := op_notN.or op_notBl
end
end DP
/-! DP: defs of the text, in short. -/
namespace DP
open PySem L2 PySem.Spec PyProof.Rows
abbrev fK (d : D) : Env → M Sv := fun _ => M.ok (0, d)
abbrev fYes : Env → M Bool := fun _ => M.ok true
abbrev fNewT : Env → M Sv := fun _ => M.ok (1, .dT [] [])
abbrev fNewK : Env → M Sv := fun _ => M.ok (1, .dK [] [])
section
variable {X : Cx} {K : Fg} {W : WX} {pos : Pos}
theorem pd_newT : PE X (.Dict [] [] pos) (tD K W fNewT) := PE.imp pe_dnewT fun σ H Q ⟨F0, H0, F, env, s, o⟩ p hp => by
  have o : Out (fNewT env) (EvOk K F H Q) (ExOk K F H W σ) := o
  exact (Out.ok o rfl) (.ref p) F _ [p] (Gr.own s.fh hp) ⟨p, _, [], rfl, s.fh.back hp, upd_same, rfl, rfl, rfl, rfl⟩ (List.nodup_cons.mpr ⟨by simp, List.nodup_nil⟩) fun a m => by rw [List.mem_singleton] at m; rw [m]; exact hp
theorem pd_newK : PE X (.Dict [] [] pos) (tD K W fNewK) := PE.imp pe_dnewK fun σ H Q ⟨F0, H0, F, env, s, o⟩ p hp => by
  have o : Out (fNewK env) (EvOk K F H Q) (ExOk K F H W σ) := o
  exact (Out.ok o rfl) (.ref p) F _ [p] (Gr.own s.fh hp) ⟨p, _, [], rfl, s.fh.back hp, upd_same, rfl, rfl, rfl, rfl⟩ (List.nodup_cons.mpr ⟨by simp, List.nodup_nil⟩) fun a m => by rw [List.mem_singleton] at m; rw [m]; exact hp
theorem pd_gS {x : Str} {s : Str} (h : ∃ t, X.mg x = some (.str s t)) (hx : Gl X x := by rfl) (hdb : (x == ("__debug__" : Str)) = false := by decide) : PE X (.Name x pos) (tD K W (fK (.str s))) := by
  obtain ⟨t, h⟩ := h
  exact pd_c (v := .str s) (pe_glob hx h ⟨_, rfl⟩ hdb) (fun _ => rfl)
theorem pd_gI {x : Str} {n : Int} (h : ∃ t, X.mg x = some (.int n t)) (hx : Gl X x := by rfl) (hdb : (x == ("__debug__" : Str)) = false := by decide) : PE X (.Name x pos) (tD K W (fK (.int n))) := by
  obtain ⟨t, h⟩ := h
  exact pd_c (v := .int n) (pe_glob hx h ⟨_, rfl⟩ hdb) (fun _ => rfl)
theorem pgn (i : Nat) {x : Str} (hN : X.N.Nodup) (hi : X.N[i]? = some x := by rfl) (hx : Loc X.env.scope x := by first | exact .inl rfl | exact .inr rfl) (hf : X.fn x = true ∨ X.env.scope.names.lookup x = some .local := by first | exact .inl rfl | exact .inr rfl) : PG X (.Name x pos) (gName i) := pg_name hN hi hx hf
end
/-- built-in names that the text leaves alone -/
structure Bt (mg : Str → Option Value) : Prop where
  len : mg "len" = none
  str : mg "str" = none
  int : mg "int" = none
  bool : mg "bool" = none
  list : mg "list" = none
  dict : mg "dict" = none
  tuple : mg "tuple" = none
  isinstance : mg "isinstance" = none
  all : mg "all" = none
  sum : mg "sum" = none
  min : mg "min" = none
  sorted : mg "sorted" = none
  range : mg "range" = none
  enumerate : mg "enumerate" = none
  reversed : mg "reversed" = none
  set : mg "set" = none
/-- a def of the text stands at its name -/
def At (K : Fg) (mg : Str → Option Value) (x qual : Str) (st : Stmt) : Prop := ∃ f fd, Fun K x qual st f fd ∧ mg x = some (.ref f)
/-- a def keeps its promise -/
def Cal (P : Program) (w : World) (K : Fg) (mg : Str → Option Value) (base : Heap) (x : Str) (ps : List Str) (k : Nat) (m : List D → M Sv) : Prop :=
  ∃ f fd, FnOk P w K mg base (L2.CX P w) k f fd ps (spD K m) ∧ Binds K fd ps [] ∧ mg x = some (.ref f) ∧ PySem.W.keepIn K (.ref f) = true
section
variable {P : Program} {w : World} {K : Fg} {mg : Str → Option Value} {base : Heap}
theorem cal_of {x qual : Str} {st : Stmt} {N ps : List Str} {k : Nat} {g : Gs} (A : At K mg x qual st)
    (hbind : ∀ (kV doc pm : Value) (an : Option Addr) (cdv ct : Value) (us : List Value), us.length = ps.length → bindArgs (PySem.W.fnOf x qual (defArgs st) (defBody st) (defScope st) .none kV doc pm an cdv ct) ⟨us, []⟩ = pure (ps.zip us))
    (S : FnScope N ps (defScope st))
    (hb : ∀ {f : Addr} (cdv : Value) (A : Around) (outer : List PySem.Env) (s : Shared) (H : Hp) (E : XK), Room k (A.deeper (envOfC qual (defScope st) s.heap.objs.size f cdv)) →
      Takes (cxOf (L2.CX P w) P w K mg base N qual (defScope st) f cdv A outer s H E) (fun cls d _ H => E cls d H) →
      PSs (cxOf (L2.CX P w) P w K mg base N qual (defScope st) f cdv A outer s H E) (defBody st) (tS K (fun cls d _ H => E cls d H) g)) :
    Cal P w K mg base x ps (k + 1) (runG N ps.length g) := by
  obtain ⟨f, fd, F, hm⟩ := A
  exact ⟨f, fd, fn_D F S (fun cdv A outer s H E hr => hb cdv A outer s H E hr (takes_of rfl rfl rfl rfl)), F.binds hbind, hm, F.kp⟩
theorem fn_of {x qual : Str} {st : Stmt} {f : Addr} {fd : FuncData} {N ps : List Str} {k : Nat} {g : Gs} (F : Fun K x qual st f fd)
    (S : FnScope N ps (defScope st))
    (hb : ∀ (cdv : Value) (A : Around) (outer : List PySem.Env) (s : Shared) (H : Hp) (E : XK), Room k (A.deeper (envOfC qual (defScope st) s.heap.objs.size f cdv)) →
      Takes (cxOf (L2.CX P w) P w K mg base N qual (defScope st) f cdv A outer s H E) (fun cls d _ H => E cls d H) →
      PSs (cxOf (L2.CX P w) P w K mg base N qual (defScope st) f cdv A outer s H E) (defBody st) (tS K (fun cls d _ H => E cls d H) g)) :
    FnOk P w K mg base (L2.CX P w) (k + 1) f fd ps (spD K (runG N ps.length g)) :=
  fn_D F S (fun cdv A outer s H E hr => hb cdv A outer s H E hr (takes_of rfl rfl rfl rfl))
theorem Cal.imp {x : Str} {ps : List Str} {k : Nat} {m m' : List D → M Sv} (c : Cal P w K mg base x ps k m) (h : ∀ ds r, m' ds = some r → m ds = some r) : Cal P w K mg base x ps k m' := by
  obtain ⟨f, fd, G, b, hm, kp⟩ := c
  exact ⟨f, fd, G.imp (spD.imp h), b, hm, kp⟩
end
theorem pd_cal {X : Cx} {W : WX} {gs : Env → M (List Sv)} {x : Str} {ps : List Str} {k : Nat} {m : List D → M Sv} {p pos : Pos} {e : Expr} {es : List Expr} (c : Cal X.prog X.w X.K X.mg X.base x ps k m) (hr : Room k X.A) (tk : Takes X W)
    (ha : PA X (e :: es) (tAw X.K W gs)) (hg : Gl X x := by rfl) (hdb : (x == ("__debug__" : Str)) = false := by decide) (he : starEach (e :: es) X.env = (false, eval e X.env) :: starEach es X.env := by rfl) (hpl : (backTo pos (starEach es X.env)).any (·.1) = false := by rfl) :
    PE X (.Call (.Name x p) (e :: es) [] pos) (tD X.K W (fCall m gs)) := by
  obtain ⟨f, fd, G, b, hm, kp⟩ := c
  exact pd_call G hr hm kp b (fun σ => passAt tk σ) ha hg hdb he hpl
/-- the law's own end: of the script's ints it tells True -/
def spLaw (K : Fg) : Sp := fun vs H Q _ => ∃ (a : Addr) (ns : List Int), vs = [.ref a] ∧ SqL K H a (ns.map V.int) ∧ ns.length ≤ 63 ∧ ∀ H', Q (.bl true) H'
theorem RpL.intsD {K : Fg} {F : Hp} : ∀ (ns : List Int), RpL K F (ns.map D.int) (ns.map V.int)
  | [] => rfl
  | n :: ns => ⟨.int n, _, rfl, rfl, RpL.intsD ns⟩
theorem spLaw_of {K : Fg} {m : List D → M Sv} (h : ∀ ns : List Int, ns.length ≤ 63 → m [.sl (ns.map D.int)] = M.ok (0, .bl true)) (vs : List V) (H : Hp) (Q : VK) (E : XK) (q : spLaw K vs H Q E) : spD K m vs H Q E := by
  obtain ⟨a, ns, rfl, hs, hl, k⟩ := q
  refine ⟨H, [.sl (ns.map D.int)], Ex.rfl' H, ⟨.ref a, [], rfl, ⟨a, _, rfl, hs, RpL.intsD ns⟩, rfl⟩, .inl ⟨_, h ns hl, fun v F' H' fp g o _ _ => ?_⟩⟩
  rw [o.bl]
  exact k H'
theorem cx_end {P : Program} {w : World} {H : Hp} {s : Shared} {e : Value} {s' : Shared} (c : L2.CX P w [] H s (fun _ _ _ => False) e s') : False := by
  obtain ⟨_, _, _, _, _, _, _, _, _, _, _, _, z⟩ := c
  exact z
/-! ### the text by places -/
theorem at_mk {K : Fg} {mg : Str → Option Value} {h : Heap} {x qual : Str} {st : Stmt} {f : Addr} {oc : Value} {od an : Option Addr} {osl : Array (Option Value)} {kV doc pm cdv ct : Value} (X : K.In h) (G : h.Ns mainGlobals mg)
    (a : PySem.W.nsIn K mainGlobals x = some (some (.ref f)))
    (l : K.lookup f = some ⟨oc, od, .func (PySem.W.fnOf x qual (defArgs st) (defBody st) (defScope st) .none kV doc pm an cdv ct), osl⟩)
    (c : PySem.W.codeIn K cdv qual = true) (k : PySem.W.keepIn K (.ref f) = true) : At K mg x qual st :=
  ⟨f, _, fun_mk l c k, PySem.W.mg_of X G a⟩
end DP
namespace G1
open PySem L2 DP
def top (i : Nat) : Stmt := PySem.Challenge.pw_gapyard_k01_names_and_numbers.main.body.getD i (.Pass ⟨0, 0, 0, 0⟩)
structure Ct (mg : Str → Option Value) : Prop where
  LETTERS : ∃ t, mg "LETTERS" = some (.str "abcdefghijklmnopqrstuvwxyz" t)
  MOST_LETTERS : ∃ t, mg "MOST_LETTERS" = some (.int 8 t)
  MOST_NUMBER : ∃ t, mg "MOST_NUMBER" = some (.int 1000000000000000000000000000000000000000000000000000000000000 t)
section
variable {P : Program} {w : World} {K : Fg} {mg : Str → Option Value} {base : Heap}
abbrev s_is_name : Stmt := top 4
abbrev N_is_name : List Str := ["thing", "sign"]
abbrev P_is_name : List Str := ["thing"]
theorem sc_is_name : FnScope N_is_name P_is_name (defScope s_is_name) := ⟨rfl, rfl, rfl, by decide +kernel, rfl, by decide +kernel, by decide +kernel⟩
def g_is_name : Gs := (gSeq (gIf (fOr (fNot (fT (fIsi "str" (fVarW 0)))) (fNot (fT (fChain oLe oLe (fK (.int 1)) (fC (c1 oLen) (fCons (fVarW 0) fNil)) (fK (.int 8)))))) (gRet (fK (.bl false))) gNil) (gRet (fC (c1 oAll) (fCons (fLc [1] (gN 1) fYes (f2 (oInA false) (fVarW 1) (fK (.str "abcdefghijklmnopqrstuvwxyz"))) (fSeq asSg (fVarW 0))) fNil))))
def m_is_name : List D → M Sv := runG N_is_name 1 g_is_name
theorem ok_is_name (A : At K mg "is_name" "is_name" s_is_name) (T : Bt mg) (C : Ct mg) : Cal P w K mg base "is_name" P_is_name 1 m_is_name := cal_of A (fun _ _ _ _ _ _ us hl => match us, hl with | [_], _ => rfl) sc_is_name (fun cdv A outer s H E hr tk =>
  sd_cons (sd_if (PW.pt (pw_o (pt_n (pt_v (pd_w (pd_isi (x := "str") (T := "str") (pd_varW (pv 0)) (by rfl) T.isinstance (by rfl) T.str (by decide +kernel))))) (pw_o1 (pt_n (pt_chain2 op_le vB op_le vB (pd_w (pd_int)) (pd_w (pd_callB call_len' vLen (by rfl) T.len PySem.boot_len (pd_consw (pd_varW (pv 0)) (pd_nilw)))) (pd_w (pd_gI C.MOST_LETTERS))))))) (sd_one (sd_ret (pd_bl))) (sd_nil)) (sd_one (sd_ret (pd_callB (cr_all rfl) vAll (by rfl) T.all (by decide +kernel) (pd_consw (pd_w (pd_lc (own := [("sign", 1)]) [1] rfl sc_is_name.nd (pi_sg (pd_varW (pv 0))) (blkOk_by (N := N_is_name) (sc := defScope s_is_name) (by decide +kernel)) (fun _ _ _ _ _ => pg_n (pgn 1 sc_is_name.nd)) (fun _ _ _ _ _ => pts_0) (fun _ _ _ _ _ => pd_cmp (op_inA (hu_of hr)) vInA (pd_varW (pv 1)) (pd_w (pd_gS C.LETTERS)) (by rfl)))) (pd_nilw))))))
abbrev s_is_whole : Stmt := top 5
abbrev N_is_whole : List Str := ["thing"]
abbrev P_is_whole : List Str := ["thing"]
theorem sc_is_whole : FnScope N_is_whole P_is_whole (defScope s_is_whole) := ⟨rfl, rfl, rfl, by decide +kernel, rfl, by decide +kernel, by decide +kernel⟩
def g_is_whole : Gs := (gRet (fAndV (fIsi "int" (fVarW 0)) (fNotV (fIsi "bool" (fVarW 0)))))
def m_is_whole : List D → M Sv := runG N_is_whole 1 g_is_whole
theorem ok_is_whole (A : At K mg "is_whole" "is_whole" s_is_whole) (T : Bt mg) (C : Ct mg) : Cal P w K mg base "is_whole" P_is_whole 1 m_is_whole := cal_of A (fun _ _ _ _ _ _ us hl => match us, hl with | [_], _ => rfl) sc_is_whole (fun cdv A outer s H E hr tk =>
  sd_one (sd_ret (pd_and (pd_w (pd_isi (x := "int") (T := "int") (pd_varW (pv 0)) (by rfl) T.isinstance (by rfl) T.int (by decide +kernel))) (pd_one (pd_not (pd_w (pd_isi (x := "bool") (T := "bool") (pd_varW (pv 0)) (by rfl) T.isinstance (by rfl) T.bool (by decide +kernel))))))))
abbrev s_is_number : Stmt := top 6
abbrev N_is_number : List Str := ["thing"]
abbrev P_is_number : List Str := ["thing"]
theorem sc_is_number : FnScope N_is_number P_is_number (defScope s_is_number) := ⟨rfl, rfl, rfl, by decide +kernel, rfl, by decide +kernel, by decide +kernel⟩
def g_is_number : Gs := (gRet (fAndV (fCall m_is_whole (fCons (fVarW 0) fNil)) (fChain oLe oLe (f1 oNeg (fK (.int 1000000000000000000000000000000000000000000000000000000000000))) (fVarW 0) (fK (.int 1000000000000000000000000000000000000000000000000000000000000)))))
def m_is_number : List D → M Sv := runG N_is_number 1 g_is_number
theorem ok_is_number (A : At K mg "is_number" "is_number" s_is_number) (T : Bt mg) (C : Ct mg) (c_is_whole : Cal P w K mg base "is_whole" P_is_whole 1 m_is_whole) : Cal P w K mg base "is_number" P_is_number 2 m_is_number := cal_of A (fun _ _ _ _ _ _ us hl => match us, hl with | [_], _ => rfl) sc_is_number (fun cdv A outer s H E hr tk =>
  sd_one (sd_ret (pd_and (pd_w (pd_cal c_is_whole (hr.mono (by decide)) tk (pd_consw (pd_varW (pv 0)) (pd_nilw)))) (pd_one (pd_chain op_le vB op_le vB (pd_w (pd_un un_neg vNeg (pd_w (pd_gI C.MOST_NUMBER)))) (pd_varW (pv 0)) (pd_w (pd_gI C.MOST_NUMBER)))))))
abbrev s__law_draw : Stmt := top 8
abbrev N__law_draw : List Str := ["_law_script", "_law_k"]
abbrev P__law_draw : List Str := ["_law_script", "_law_k"]
theorem sc__law_draw : FnScope N__law_draw P__law_draw (defScope s__law_draw) := ⟨rfl, rfl, rfl, by decide +kernel, rfl, by decide +kernel, by decide +kernel⟩
def g__law_draw : Gs := (gRet (fIf (fT (f2 oGt (fC (c1 oLen) (fCons (fVarW 0) fNil)) (fVarW 1))) (f2 oIxA (fVarW 0) (fVarW 1)) (fK (.int 0))))
def m__law_draw : List D → M Sv := runG N__law_draw 2 g__law_draw
theorem ok__law_draw (A : At K mg "_law_draw" "_law_draw" s__law_draw) (T : Bt mg) (C : Ct mg) : Cal P w K mg base "_law_draw" P__law_draw 1 m__law_draw := cal_of A (fun _ _ _ _ _ _ us hl => match us, hl with | [_, _], _ => rfl) sc__law_draw (fun cdv A outer s H E hr tk =>
  sd_one (sd_ret (pd_if (pt_cmp2 op_gt vB (pd_w (pd_callB call_len' vLen (by rfl) T.len PySem.boot_len (pd_consw (pd_varW (pv 0)) (pd_nilw)))) (pd_varW (pv 1)) (nomark _)) (pd_sub (hu_of hr) (pd_varW (pv 0)) (pd_varW (pv 1))) (pd_int))))
abbrev s__law_spread : Stmt := top 9
abbrev N__law_spread : List Str := ["_law_cell", "_law_k"]
abbrev P__law_spread : List Str := ["_law_cell", "_law_k"]
theorem sc__law_spread : FnScope N__law_spread P__law_spread (defScope s__law_spread) := ⟨rfl, rfl, rfl, by decide +kernel, rfl, by decide +kernel, by decide +kernel⟩
def g__law_spread : Gs := (gRet (f2 oMod (f2 oMulA (f2 oAddA (fVarW 0) (fK (.int 3))) (f2 oAddA (f2 oAddA (fK (.int 48271)) (f2 oMulA (f2 oMulA (fK (.int 2)) (fVarW 1)) (fVarW 1))) (fVarW 1))) (fK (.int 2147483647))))
def m__law_spread : List D → M Sv := runG N__law_spread 2 g__law_spread
theorem ok__law_spread (A : At K mg "_law_spread" "_law_spread" s__law_spread) (T : Bt mg) (C : Ct mg) : Cal P w K mg base "_law_spread" P__law_spread 1 m__law_spread := cal_of A (fun _ _ _ _ _ _ us hl => match us, hl with | [_, _], _ => rfl) sc__law_spread (fun cdv A outer s H E hr tk =>
  sd_one (sd_ret (pd_op op_mod vMod (pd_w (pd_op op_mulA vMulA (pd_w (pd_op op_addA vAddA (pd_varW (pv 0)) (pd_w (pd_int)))) (pd_w (pd_op op_addA vAddA (pd_w (pd_op op_addA vAddA (pd_w (pd_int)) (pd_w (pd_op op_mulA vMulA (pd_w (pd_op op_mulA vMulA (pd_w (pd_int)) (pd_varW (pv 1)))) (pd_varW (pv 1)))))) (pd_varW (pv 1)))))) (pd_w (pd_int)))))
abbrev s__law_text : Stmt := top 10
abbrev N__law_text : List Str := ["_law_draw_here", "_law_letters", "_law_text_here", "_law_at", "_law_sign", "_law_k"]
abbrev P__law_text : List Str := ["_law_draw_here"]
theorem sc__law_text : FnScope N__law_text P__law_text (defScope s__law_text) := ⟨rfl, rfl, rfl, by decide +kernel, rfl, by decide +kernel, by decide +kernel⟩
def g__law_text : Gs := (gSeq (gSet 1 (fK (.str "abcdefghijklmnopqrstuvwxyz"))) (gSeq (gSet 2 (fM "str" (m1 oJoin) (fK (.str "")) (fCons (fLc [5] (gN 5) fYes (f2 oIxA (fVarW 1) (f2 oMod (f2 oDiv (fVarW 0) (f2 oAddA (fK (.int 1)) (f2 oMulA (fK (.int 3)) (fVarW 5)))) (fK (.int 26)))) (fRg asR1 (fCons (f2 oMod (fVarW 0) (fK (.int 10))) fNil))) fNil))) (gSeq (gSet 3 (f2 oMod (f2 oDiv (fVarW 0) (fK (.int 10))) (f2 oAddA (fC (c1 oLen) (fCons (fVarW 2) fNil)) (fK (.int 1))))) (gSeq (gSet 4 (f2 oIxA (fLst 0 (fCons (fK (.str "")) (fCons (fK (.str "")) (fCons (fK (.str "A")) (fCons (fK (.str " ")) (fCons (fK (.str "1")) (fCons (fK (.str "-")) (fCons (fK (.str "_")) (fCons (fK (.str "\n")) fNil))))))))) (f2 oMod (f2 oDiv (fVarW 0) (fK (.int 100))) (fK (.int 8))))) (gRet (f2 oAddA (f2 oAddA (fSl oSlS (fVarW 2) fO0 (fO1 (fVarW 3))) (fVarW 4)) (fSl oSlS (fVarW 2) (fO1 (fVarW 3)) fO0)))))))
def m__law_text : List D → M Sv := runG N__law_text 1 g__law_text
theorem ok__law_text (A : At K mg "_law_text" "_law_text" s__law_text) (T : Bt mg) (C : Ct mg) : Cal P w K mg base "_law_text" P__law_text 1 m__law_text := cal_of A (fun _ _ _ _ _ _ us hl => match us, hl with | [_], _ => rfl) sc__law_text (fun cdv A outer s H E hr tk =>
  sd_cons (sd_set 1 sc__law_text.nd rfl (by first | exact .inl rfl | exact .inr rfl) (pd_str)) (sd_cons (sd_set 2 sc__law_text.nd rfl (by first | exact .inl rfl | exact .inr rfl) (pd_m vJoin (pe_bm PySem.F.plainAttrs_str PySem.F.slot_str_join PySem.F.type_str_join mt_join (pd_w (pd_str)) (pd_consw (pd_w (pd_lc (own := [("_law_k", 5)]) [5] rfl sc__law_text.nd (pi_rg1 (by rfl) T.range (pd_consw (pd_w (pd_op op_mod vMod (pd_varW (pv 0)) (pd_w (pd_int)))) (pd_nilw))) (blkOk_by (N := N__law_text) (sc := defScope s__law_text) (by decide +kernel)) (fun _ _ _ _ _ => pg_n (pgn 5 sc__law_text.nd)) (fun _ _ _ _ _ => pts_0) (fun _ _ _ _ _ => pd_sub (hu_of hr) (pd_varW (pv 1)) (pd_w (pd_op op_mod vMod (pd_w (pd_op op_fdiv vDiv (pd_varW (pv 0)) (pd_w (pd_op op_addA vAddA (pd_w (pd_int)) (pd_w (pd_op op_mulA vMulA (pd_w (pd_int)) (pd_varW (pv 5)))))))) (pd_w (pd_int))))))) (pd_nilw))))) (sd_cons (sd_set 3 sc__law_text.nd rfl (by first | exact .inl rfl | exact .inr rfl) (pd_op op_mod vMod (pd_w (pd_op op_fdiv vDiv (pd_varW (pv 0)) (pd_w (pd_int)))) (pd_w (pd_op op_addA vAddA (pd_w (pd_callB call_len' vLen (by rfl) T.len PySem.boot_len (pd_consw (pd_varW (pv 2)) (pd_nilw)))) (pd_w (pd_int)))))) (sd_cons (sd_set 4 sc__law_text.nd rfl (by first | exact .inl rfl | exact .inr rfl) (pd_sub (hu_of hr) (pd_w (pd_lst 0 (pd_cons (pd_str) (pd_cons (pd_str) (pd_cons (pd_str) (pd_cons (pd_str) (pd_cons (pd_str) (pd_cons (pd_str) (pd_cons (pd_str) (pd_cons (pd_str) (pd_nil))))))))))) (pd_w (pd_op op_mod vMod (pd_w (pd_op op_fdiv vDiv (pd_varW (pv 0)) (pd_w (pd_int)))) (pd_w (pd_int)))))) (sd_one (sd_ret (pd_op op_addA vAddA (pd_w (pd_op op_addA vAddA (pd_w (pd_sl sl_str vSlS (pd_varW (pv 2)) (po_n) (po_s (pd_varW (pv 3))))) (pd_varW (pv 4)))) (pd_w (pd_sl sl_str vSlS (pd_varW (pv 2)) (po_s (pd_varW (pv 3))) (po_n))))))))))
abbrev s__law_number : Stmt := top 11
abbrev N__law_number : List Str := ["_law_cell", "_law_draw_here", "_law_most", "_law_some"]
abbrev P__law_number : List Str := ["_law_cell", "_law_draw_here"]
theorem sc__law_number : FnScope N__law_number P__law_number (defScope s__law_number) := ⟨rfl, rfl, rfl, by decide +kernel, rfl, by decide +kernel, by decide +kernel⟩
def g__law_number : Gs := (gSeq (gSet 2 (f2 oPow (fK (.int 10)) (fK (.int 60)))) (gSeq (gSet 3 (fLst 0 (fCons (fVar 2) (fCons (f2 oAddA (fVarW 2) (fK (.int 1))) (fCons (f1 oNeg (fVarW 2)) (fCons (f2 oSub (f1 oNeg (fVarW 2)) (fK (.int 1))) (fCons (f2 oSub (fVarW 2) (fK (.int 1))) (fCons (fK (.int 0)) (fCons (f2 oMod (fVarW 0) (f2 oMulA (fK (.int 2)) (fVarW 2))) (fCons (f1 oNeg (f2 oMod (fVarW 0) (f2 oMulA (fK (.int 2)) (fVarW 2)))) fNil)))))))))) (gRet (f2 oIxA (f2 oAddA (fVarW 3) (fLst 0 (fCons (f2 oMulA (f2 oMod (fVarW 0) (fVarW 2)) (f2 oMod (fVarW 1) (fK (.int 3)))) (fCons (fVar 1) fNil)))) (f2 oMod (f2 oDiv (fVarW 1) (fK (.int 3))) (fK (.int 10)))))))
def m__law_number : List D → M Sv := runG N__law_number 2 g__law_number
theorem ok__law_number (A : At K mg "_law_number" "_law_number" s__law_number) (T : Bt mg) (C : Ct mg) : Cal P w K mg base "_law_number" P__law_number 1 m__law_number := cal_of A (fun _ _ _ _ _ _ us hl => match us, hl with | [_, _], _ => rfl) sc__law_number (fun cdv A outer s H E hr tk =>
  sd_cons (sd_set 2 sc__law_number.nd rfl (by first | exact .inl rfl | exact .inr rfl) (pd_op op_pow vPow (pd_w (pd_int)) (pd_w (pd_int)))) (sd_cons (sd_set 3 sc__law_number.nd rfl (by first | exact .inl rfl | exact .inr rfl) (pd_lst 0 (pd_cons (pd_var (pv 2)) (pd_cons (pd_op op_addA vAddA (pd_varW (pv 2)) (pd_w (pd_int))) (pd_cons (pd_un un_neg vNeg (pd_varW (pv 2))) (pd_cons (pd_op op_sub vSub (pd_w (pd_un un_neg vNeg (pd_varW (pv 2)))) (pd_w (pd_int))) (pd_cons (pd_op op_sub vSub (pd_varW (pv 2)) (pd_w (pd_int))) (pd_cons (pd_int) (pd_cons (pd_op op_mod vMod (pd_varW (pv 0)) (pd_w (pd_op op_mulA vMulA (pd_w (pd_int)) (pd_varW (pv 2))))) (pd_cons (pd_un un_neg vNeg (pd_w (pd_op op_mod vMod (pd_varW (pv 0)) (pd_w (pd_op op_mulA vMulA (pd_w (pd_int)) (pd_varW (pv 2))))))) (pd_nil))))))))))) (sd_one (sd_ret (pd_sub (hu_of hr) (pd_w (pd_op op_addA vAddA (pd_varW (pv 3)) (pd_w (pd_lst 0 (pd_cons (pd_op op_mulA vMulA (pd_w (pd_op op_mod vMod (pd_varW (pv 0)) (pd_varW (pv 2)))) (pd_w (pd_op op_mod vMod (pd_varW (pv 1)) (pd_w (pd_int))))) (pd_cons (pd_var (pv 1)) (pd_nil))))))) (pd_w (pd_op op_mod vMod (pd_w (pd_op op_fdiv vDiv (pd_varW (pv 1)) (pd_w (pd_int)))) (pd_w (pd_int)))))))))
abbrev s_law : Stmt := top 12
abbrev N_law : List Str := ["_law_script", "_law_cell", "_law_draw_here", "_law_text_here", "_law_good", "_law_number_here", "_law_odd", "_law_found", "_law_fits", "_law_sign", "_law_one"]
abbrev P_law : List Str := ["_law_script"]
theorem sc_law : FnScope N_law P_law (defScope s_law) := ⟨rfl, rfl, rfl, by decide +kernel, rfl, by decide +kernel, by decide +kernel⟩
def g_law : Gs := (gSeq (gFor (gN 1) (fSeq asL (f2 oAddA (fSl oSlL (fVarW 0) fO0 (fO1 (fK (.int 60)))) (fLst 0 (fCons (fK (.int 0)) fNil)))) (gSeq (gSet 2 (fCall m__law_spread (fCons (fVarW 1) (fCons (fK (.int 3)) fNil)))) (gSeq (gSet 3 (fCall m__law_text (fCons (fVarW 2) fNil))) (gSeq (gSet 4 (fAndV (fChain oLe oLe (fK (.int 1)) (fC (c1 oLen) (fCons (fVarW 3) fNil)) (fK (.int 8))) (f2 oEq (fLc [9] (gN 9) (fT (f2 (oInA true) (fVarW 9) (fK (.str "abcdefghijklmnopqrstuvwxyz")))) (fVar 9) (fSeq asSg (fVarW 3))) (fLst 0 fNil)))) (gSeq (gSet 5 (fCall m__law_number (fCons (fVarW 1) (fCons (fVarW 2) fNil)))) (gSeq (gSet 6 (f2 oIxA (fLst 0 (fCons (fK .non) (fCons (fK (.bl true)) (fCons (fK (.bl false)) (fCons (fFz (fLst 0 (fCons (fVar 3) fNil))) (fCons (fTup (fCons (fVar 3) fNil)) (fCons (fFz (fNewT)) (fCons (fFz (fLst 0 fNil)) (fCons (fK (.str "")) (fCons (fC (c1 oStr) (fCons (fVarW 5) fNil)) fNil)))))))))) (f2 oMod (fVarW 2) (fK (.int 9))))) (gSeq (gSet 7 (fLst 0 (fCons (fCall m_is_name (fCons (fVarW 3) fNil)) (fCons (fCall m_is_number (fCons (fVarW 3) fNil)) (fCons (fCall m_is_name (fCons (fVarW 5) fNil)) (fCons (fCall m_is_number (fCons (fVarW 5) fNil)) (fCons (fCall m_is_name (fCons (fVarW 6) fNil)) (fCons (fCall m_is_number (fCons (fVarW 6) fNil)) fNil)))))))) (gSeq (gSet 8 (fChain oLe oLe (f1 oNeg (f2 oPow (fK (.int 10)) (fK (.int 60)))) (fVarW 5) (f2 oPow (fK (.int 10)) (fK (.int 60))))) (gFz 7 (gIf (fOr (fT (f2 oNe (fVarW 7) (fLst 0 (fCons (fVar 4) (fCons (fK (.bl false)) (fCons (fK (.bl false)) (fCons (fVar 8) (fCons (fK (.bl false)) (fCons (fK (.bl false)) fNil))))))))) (fNot (fT (fC (c1 oAll) (fCons (fLc [10] (gN 10) fYes (fIsi "bool" (fVarW 10)) (fSeq asL (fVar 7))) fNil))))) (gRet (fK (.bl false))) gNil)))))))))) (gRet (fK (.bl true))))
def m_law : List D → M Sv := runG N_law 1 g_law
theorem ok_law {f : Addr} {fd : FuncData} (F : Fun K "law" "law" s_law f fd) (T : Bt mg) (C : Ct mg) (c__law_spread : Cal P w K mg base "_law_spread" P__law_spread 1 m__law_spread) (c__law_text : Cal P w K mg base "_law_text" P__law_text 1 m__law_text) (c__law_number : Cal P w K mg base "_law_number" P__law_number 1 m__law_number) (c_is_number : Cal P w K mg base "is_number" P_is_number 2 m_is_number) (c_is_name : Cal P w K mg base "is_name" P_is_name 1 m_is_name) : FnOk P w K mg base (L2.CX P w) 3 f fd P_law (spD K m_law) := fn_of F sc_law (fun cdv A outer s H E hr tk =>
  sd_cons (sd_for (passes_of rfl) rfl (pi_l (pd_op op_addA vAddA (pd_w (pd_sl sl_list vSlL (pd_varW (pv 0)) (po_n) (po_s (pd_w (pd_int))))) (pd_w (pd_lst 0 (pd_cons (pd_int) (pd_nil)))))) (pg_n (pgn 1 sc_law.nd)) (sd_cons (sd_set 2 sc_law.nd rfl (by first | exact .inl rfl | exact .inr rfl) (pd_cal c__law_spread (hr.mono (by decide)) tk (pd_consw (pd_varW (pv 1)) (pd_consw (pd_w (pd_int)) (pd_nilw))))) (sd_cons (sd_set 3 sc_law.nd rfl (by first | exact .inl rfl | exact .inr rfl) (pd_cal c__law_text (hr.mono (by decide)) tk (pd_consw (pd_varW (pv 2)) (pd_nilw)))) (sd_cons (sd_set 4 sc_law.nd rfl (by first | exact .inl rfl | exact .inr rfl) (pd_and (pd_w (pd_chain op_le vB op_le vB (pd_w (pd_int)) (pd_w (pd_callB call_len' vLen (by rfl) T.len PySem.boot_len (pd_consw (pd_varW (pv 3)) (pd_nilw)))) (pd_w (pd_int)))) (pd_one (pd_cmp (op_eqD hr.units) vEq (pd_w (pd_lc (own := [("_law_sign", 9)]) [9] rfl sc_law.nd (pi_sg (pd_varW (pv 3))) (blkOk_by (N := N_law) (sc := defScope s_law) (by decide +kernel)) (fun _ _ _ _ _ => pg_n (pgn 9 sc_law.nd)) (fun _ _ _ _ _ => pts_1 (pt_cmp2 (op_notInA (hu_of hr)) vInA (pd_varW (pv 9)) (pd_w (pd_str)) (by rfl))) (fun _ _ _ _ _ => pd_var (pv 9)))) (pd_w (pd_lst 0 (pd_nil))) (nomark _))))) (sd_cons (sd_set 5 sc_law.nd rfl (by first | exact .inl rfl | exact .inr rfl) (pd_cal c__law_number (hr.mono (by decide)) tk (pd_consw (pd_varW (pv 1)) (pd_consw (pd_varW (pv 2)) (pd_nilw))))) (sd_cons (sd_set 6 sc_law.nd rfl (by first | exact .inl rfl | exact .inr rfl) (pd_sub (hu_of hr) (pd_w (pd_lst 0 (pd_cons (pd_non) (pd_cons (pd_bl) (pd_cons (pd_bl) (pd_cons (pd_fz (pd_lst 0 (pd_cons (pd_var (pv 3)) (pd_nil)))) (pd_cons (pd_tup (pd_cons (pd_var (pv 3)) (pd_nil))) (pd_cons (pd_fz (pd_newT)) (pd_cons (pd_fz (pd_lst 0 (pd_nil))) (pd_cons (pd_str) (pd_cons (pd_callTy call_str_int vStr (by rfl) T.str (by decide +kernel) (pd_consw (pd_varW (pv 5)) (pd_nilw))) (pd_nil)))))))))))) (pd_w (pd_op op_mod vMod (pd_varW (pv 2)) (pd_w (pd_int)))))) (sd_cons (sd_set 7 sc_law.nd rfl (by first | exact .inl rfl | exact .inr rfl) (pd_lst 0 (pd_cons (pd_cal c_is_name (hr.mono (by decide)) tk (pd_consw (pd_varW (pv 3)) (pd_nilw))) (pd_cons (pd_cal c_is_number (hr.mono (by decide)) tk (pd_consw (pd_varW (pv 3)) (pd_nilw))) (pd_cons (pd_cal c_is_name (hr.mono (by decide)) tk (pd_consw (pd_varW (pv 5)) (pd_nilw))) (pd_cons (pd_cal c_is_number (hr.mono (by decide)) tk (pd_consw (pd_varW (pv 5)) (pd_nilw))) (pd_cons (pd_cal c_is_name (hr.mono (by decide)) tk (pd_consw (pd_varW (pv 6)) (pd_nilw))) (pd_cons (pd_cal c_is_number (hr.mono (by decide)) tk (pd_consw (pd_varW (pv 6)) (pd_nilw))) (pd_nil))))))))) (sd_cons (sd_set 8 sc_law.nd rfl (by first | exact .inl rfl | exact .inr rfl) (pd_chain op_le vB op_le vB (pd_w (pd_un un_neg vNeg (pd_w (pd_op op_pow vPow (pd_w (pd_int)) (pd_w (pd_int)))))) (pd_varW (pv 5)) (pd_w (pd_op op_pow vPow (pd_w (pd_int)) (pd_w (pd_int)))))) (sd_one (sd_fz 7 (sd_if (PW.pt (pw_o (pt_cmp2 (op_neD hr.units) vNe (pd_varW (pv 7)) (pd_w (pd_lst 0 (pd_cons (pd_var (pv 4)) (pd_cons (pd_bl) (pd_cons (pd_bl) (pd_cons (pd_var (pv 8)) (pd_cons (pd_bl) (pd_cons (pd_bl) (pd_nil))))))))) (nomark _)) (pw_o1 (pt_n (pt_v (pd_w (pd_callB (cr_all rfl) vAll (by rfl) T.all (by decide +kernel) (pd_consw (pd_w (pd_lc (own := [("_law_one", 10)]) [10] rfl sc_law.nd (pi_l (pd_var (pv 7))) (blkOk_by (N := N_law) (sc := defScope s_law) (by decide +kernel)) (fun _ _ _ _ _ => pg_n (pgn 10 sc_law.nd)) (fun _ _ _ _ _ => pts_0) (fun _ _ _ _ _ => pd_isi (x := "bool") (T := "bool") (pd_varW (pv 10)) (by rfl) T.isinstance (by rfl) T.bool (by decide +kernel)))) (pd_nilw))))))))) (sd_one (sd_ret (pd_bl))) (sd_nil)))))))))))) (sd_one (sd_ret (pd_bl))))
end
end G1
/-! DP: reading the mirrors in plain Lean. -/
namespace DP
open PySem L2 PySem.Spec PyProof.Rows
section
variable {α β : Type}



@[simp] theorem vl_some (x : Sv) : vl (some (some x)) = some (Except.ok x) := rfl
@[simp] theorem vW_eq (i : Nat) (env : Env) : fVarW i env = vl (env[i]?) := rfl
@[simp] theorem v_eq (i : Nat) (env : Env) : fVar i env = bd (vl (env[i]?)) fun x => if x.1 = 0 then M.ok x else none := rfl
@[simp] theorem lf_some (a : α) : lf (some a) = some (Except.ok a) := rfl
@[simp] theorem lf_none : lf (none : Option α) = none := rfl
@[simp] theorem gM_ok (a : α) (env : Env) (k : α → Option Fl) : gM (some (Except.ok a)) env k = k a := rfl
@[simp] theorem gM_er (e : XD) (env : Env) (k : α → Option Fl) : gM (some (Except.error e)) env k = some (.er e env) := rfl
@[simp] theorem or_none (x : Option α) : (none : Option α).or x = x := rfl
@[simp] theorem or_some (a : α) (x : Option α) : (some a).or x = some a := rfl
end
section
variable {n m : Nat} {i j : Int} {x y : Str} {b c : Bool} {xs ys : List D}
theorem oI_i (C : Int → Int → Bool) (fn : Int → Int → D) : oI C fn (n, .int i) (m, .int j) = if C i j then some (0, fn i j) else none := rfl
@[simp] theorem addA_i : oAddA (n, .int i) (m, .int j) = some (0, .int (i + j)) := rfl
theorem addA_s (h : x.length + y.length ≤ sizeLine) : oAddA (n, .str x) (m, .str y) = some (0, .str (x ++ y)) := by
  show (((none : Option Sv).or (if x.length + y.length ≤ sizeLine then some (0, .str (x ++ y)) else none)).or _).or _ = _
  rw [if_pos h]
  rfl
theorem addA_l (h1 : n ≤ 1) (h2 : m ≤ 1) (h : xs.length + ys.length ≤ sizeLine) : oAddA (n, .lst xs) (m, .lst ys) = some (1, .lst (xs ++ ys)) := by
  show (((none : Option Sv).or none).or (if n ≤ 1 ∧ m ≤ 1 ∧ xs.length + ys.length ≤ sizeLine then some (1, .lst (xs ++ ys)) else none)).or _ = _
  rw [if_pos ⟨h1, h2, h⟩]
  rfl
theorem addA_t (h1 : xs ≠ []) (h2 : ys ≠ []) (h : xs.length + ys.length ≤ sizeLine) : oAddA (n, .tup xs) (m, .tup ys) = some (0, .tup (xs ++ ys)) := by
  show (((none : Option Sv).or none).or none).or (if xs ≠ [] ∧ ys ≠ [] ∧ xs.length + ys.length ≤ sizeLine then some (0, .tup (xs ++ ys)) else none) = _
  rw [if_pos ⟨h1, h2, h⟩]
  rfl
@[simp] theorem sub_i : oSub (n, .int i) (m, .int j) = some (0, .int (i - j)) := rfl
@[simp] theorem neg_i : oNeg (n, .int i) = some (0, .int (-i)) := rfl
theorem mulA_i (h : (-(2 ^ 64) < i ∧ i < 2 ^ 64) ∨ (-(2 ^ 64) < j ∧ j < 2 ^ 64)) : oMulA (n, .int i) (m, .int j) = some (0, .int (i * j)) := by
  have c : cMul i j = true := by
    unfold cMul
    rcases h with ⟨a, b⟩ | ⟨a, b⟩
    · rw [decide_eq_true a, decide_eq_true b]; rfl
    · rw [decide_eq_true a, decide_eq_true b]; exact Bool.or_true _
  show (((if cMul i j then some ((0, .int (i * j)) : Sv) else none)).or _).or _ = _
  rw [if_pos c]
  rfl
theorem div_i (h : 0 < j ∧ j < 1073741824) : oDiv (n, .int i) (m, .int j) = some (0, .int (i / j)) := by
  have c : cDiv i j = true := by unfold cDiv; simp [h.1, h.2]
  show (if cDiv i j then some ((0, .int (i / j)) : Sv) else none) = _
  rw [if_pos c]
theorem mod_i (h : 0 < j) : oMod (n, .int i) (m, .int j) = some (0, .int (i % j)) := by
  have c : cMod i j = true := by unfold cMod; simp [h]
  show (if cMod i j then some ((0, .int (i % j)) : Sv) else none) = _
  rw [if_pos c]
@[simp] theorem lt_i : oLt (n, .int i) (m, .int j) = some (0, .bl (decide (i < j))) := rfl
@[simp] theorem ltA_i : oLtA (n, .int i) (m, .int j) = some (0, .bl (decide (i < j))) := rfl
@[simp] theorem le_i : oLe (n, .int i) (m, .int j) = some (0, .bl (decide (i ≤ j))) := rfl
@[simp] theorem gt_i : oGt (n, .int i) (m, .int j) = some (0, .bl (decide (j < i))) := rfl
@[simp] theorem ge_i : oGe (n, .int i) (m, .int j) = some (0, .bl (decide (j ≤ i))) := rfl
@[simp] theorem asB_b : asB (n, .bl b) = some (.ok b) := rfl
@[simp] theorem asI_i : asI (n, .int i) = some (.ok (some i)) := rfl
@[simp] theorem len_l : oLen (n, .lst xs) = some (0, .int xs.length) := rfl
@[simp] theorem len_sl : oLen (n, .sl xs) = some (0, .int xs.length) := rfl
@[simp] theorem len_t : oLen (n, .tup xs) = some (0, .int xs.length) := rfl
theorem len_s (h : x.length ≤ sizeLine) : oLen (n, .str x) = some (0, .int x.length) := by
  show (if x.length ≤ sizeLine then some ((0, .int x.length) : Sv) else none) = _
  rw [if_pos h]
/-- an index that stands within -/
theorem atI_in {γ : Type} {zs : List γ} (h : 0 ≤ i) (h2 : i < zs.length) : ∃ z, zs[i.toNat]? = some z ∧ atI zs i = some z := by
  have h3 : i.toNat < zs.length := by omega
  refine ⟨zs[i.toNat], List.getElem?_eq_getElem h3, ?_⟩
  unfold atI ixN
  rw [if_pos h, if_pos h2]
  exact List.getElem?_eq_getElem h3
theorem ixA_l (h1 : n ≤ 1) (h : 0 ≤ i) (h2 : i < xs.length) : ∃ d, xs[i.toNat]? = some d ∧ oIxA (n, .lst xs) (m, .int i) = some (0, d) := by
  obtain ⟨d, a, e⟩ := atI_in h h2
  refine ⟨d, a, ?_⟩
  show ((match (if n ≤ 1 then some xs else none) with | some ds => (atI ds i).map fun d => ((0, d) : Sv) | none => none).or _) = _
  rw [if_pos h1]
  show (((atI xs i).map fun d => ((0, d) : Sv)).or _) = _
  rw [e]
  rfl
theorem ixA_sl (h : 0 ≤ i) (h2 : i < xs.length) : ∃ d, xs[i.toNat]? = some d ∧ oIxA (n, .sl xs) (m, .int i) = some (0, d) := by
  obtain ⟨d, a, e⟩ := atI_in h h2
  refine ⟨d, a, ?_⟩
  show (((atI xs i).map fun d => ((0, d) : Sv)).or _) = _
  rw [e]
  rfl
theorem ixA_t (h : 0 ≤ i) (h2 : i < xs.length) : ∃ d, xs[i.toNat]? = some d ∧ oIxA (n, .tup xs) (m, .int i) = some (0, d) := by
  obtain ⟨d, a, e⟩ := atI_in h h2
  refine ⟨d, a, ?_⟩
  show (((atI xs i).map fun d => ((0, d) : Sv)).or _) = _
  rw [e]
  rfl
theorem ixA_s (h0 : x.length ≤ sizeLine) (h : 0 ≤ i) (h2 : i < x.cps.toList.length) : ∃ d, x.cps.toList[i.toNat]? = some d ∧ oIxA (n, .str x) (m, .int i) = some (0, .str ⟨#[d]⟩) := by
  obtain ⟨d, a, e⟩ := atI_in h h2
  refine ⟨d, a, ?_⟩
  show ((if x.length ≤ sizeLine then (atI x.cps.toList i).map fun c => ((0, .str ⟨#[c]⟩) : Sv) else none).or _) = _
  rw [if_pos h0, e]
  rfl
theorem slS {lo hi : Option Int} (h : x.length ≤ sizeLine) : oSlS (n, .str x) lo hi = some (0, .str (cutS x lo hi)) := by
  show (if x.length ≤ sizeLine then some ((0, .str (cutS x lo hi)) : Sv) else none) = _
  rw [if_pos h]
theorem slL {lo hi : Option Int} (h : n ≤ 1) : oSlL (n, .lst xs) lo hi = some (1, .lst (cutD xs lo hi)) := by
  show (if n ≤ 1 then some ((1, .lst (cutD xs lo hi)) : Sv) else none) = _
  rw [if_pos h]
theorem slLsl {lo hi : Option Int} : oSlL (n, .sl xs) lo hi = some (1, .lst (cutD xs lo hi)) := rfl
theorem cutD_to (k : Nat) : cutD xs none (some (k : Int)) = xs.take (min k xs.length) := by
  show (xs.drop 0).take (HT.sIx xs.length xs.length (some (k : Int)) - 0) = _
  rw [HT.sIx_nat, List.drop_zero, Nat.sub_zero]
theorem cutD_from (k : Nat) : cutD xs (some (k : Int)) none = xs.drop k := by
  show (xs.drop (HT.sIx xs.length 0 (some (k : Int)))).take (xs.length - HT.sIx xs.length 0 (some (k : Int))) = _
  rw [HT.sIx_nat]
  by_cases h : k ≤ xs.length
  · rw [Nat.min_eq_left h, List.take_of_length_le (by rw [List.length_drop]; omega)]
  · rw [Nat.min_eq_right (by omega), List.drop_of_length_le (Nat.le_refl _), List.drop_of_length_le (by omega), List.take_nil]
@[simp] theorem setsE_c (q : Nat) (qs : List Nat) (d : D) (ds : List D) (env : Env) : setsE (q :: qs) (d :: ds) env = setsE qs ds (env.set q (some (0, d))) := rfl
@[simp] theorem setsE_n (env : Env) : setsE [] [] env = some env := rfl
end
/-! ### unfolding -/
section
variable {env : Env} {f g h : Env → M Sv} {t u : Env → M Bool} {gs : Env → M (List Sv)} {α β : Type}
@[simp] theorem e_bo (a : α) (k : α → M β) : bd (some (Except.ok a)) k = k a := rfl
@[simp] theorem e_be (e : XD) (k : α → M β) : bd (some (Except.error e)) k = some (Except.error e) := rfl
@[simp] theorem e_f2 (op : Sv → Sv → Option Sv) : f2 op f g env = bd (f env) fun x => bd (g env) fun y => lf (op x y) := rfl
@[simp] theorem e_f1 (op : Sv → Option Sv) : f1 op f env = bd (f env) fun x => lf (op x) := rfl
@[simp] theorem e_fK (d : D) : fK d env = some (.ok (0, d)) := rfl
@[simp] theorem e_fYes : fYes env = some (.ok true) := rfl
@[simp] theorem e_nT : fNewT env = some (.ok (1, .dT [] [])) := rfl
@[simp] theorem e_nK : fNewK env = some (.ok (1, .dK [] [])) := rfl
@[simp] theorem e_fT : fT f env = bd (f env) asB := rfl
@[simp] theorem e_fNot : fNot t env = bd (t env) fun k => M.ok !k := rfl
@[simp] theorem e_fAnd : fAnd t u env = bd (t env) fun k => if k then u env else M.ok false := rfl
@[simp] theorem e_fOr : fOr t u env = bd (t env) fun k => if k then M.ok true else u env := rfl
@[simp] theorem e_andV : fAndV f g env = bd (f env) fun x => bd (asB x) fun k => if k then g env else M.ok (0, .bl false) := rfl
@[simp] theorem e_orV : fOrV f g env = bd (f env) fun x => bd (asB x) fun k => if k then M.ok (0, .bl true) else g env := rfl
@[simp] theorem e_notV : fNotV f env = bd (f env) fun x => bd (asB x) fun k => M.ok (0, .bl (!k)) := rfl
@[simp] theorem e_if : fIf t f g env = bd (t env) fun k => if k then f env else g env := rfl
@[simp] theorem e_ch (op op' : Sv → Sv → Option Sv) : fChain op op' f g h env = bd (f env) fun x => bd (g env) fun y => bd (lf (op x y)) fun z => bd (asB z) fun k => if k then bd (h env) fun w => lf (op' y w) else M.ok (0, .bl false) := rfl
@[simp] theorem e_fz : fFz f env = bd (f env) fun x => M.ok (0, x.2) := rfl
@[simp] theorem e_nil : fNil env = some (.ok []) := rfl
@[simp] theorem e_cons : fCons f gs env = bd (f env) fun x => bd (gs env) fun xs => M.ok (x :: xs) := rfl
@[simp] theorem e_lst (n : Nat) : fLst n gs env = bd (gs env) fun xs => lf (oLst n xs) := rfl
@[simp] theorem e_tup : fTup gs env = bd (gs env) fun xs => lf (oTup xs) := rfl
@[simp] theorem e_fC (op : List Sv → Option Sv) : fC op gs env = bd (gs env) fun xs => lf (op xs) := rfl
@[simp] theorem e_c1 (op : Sv → Option Sv) (x : Sv) : c1 op [x] = op x := rfl
@[simp] theorem e_m1 (op : Sv → Sv → Option Sv) (x y : Sv) : m1 op x [y] = op x y := rfl
@[simp] theorem e_fM (T : String) (op : Sv → List Sv → Option Sv) : fM T op f gs env = bd (f env) fun x => if tyM x = some T then bd (gs env) fun xs => lf (op x xs) else M.no := rfl
@[simp] theorem e_sl (op : Sv → Option Int → Option Int → Option Sv) (l r : Env → M (Option Int)) : fSl op f l r env = bd (f env) fun x => bd (l env) fun i => bd (r env) fun j => lf (op x i j) := rfl
@[simp] theorem e_O0 : fO0 env = some (.ok none) := rfl
@[simp] theorem e_O1 : fO1 f env = bd (f env) asI := rfl
@[simp] theorem e_seq (k : Sv → M (List D)) : fSeq k f env = bd (f env) k := rfl
@[simp] theorem e_rg (k : List Sv → M (List D)) : fRg k gs env = bd (gs env) k := rfl
@[simp] theorem e_call (m : List D → M Sv) : fCall m gs env = bd (gs env) fun xs => clR xs (m (xs.map (·.2))) := rfl
@[simp] theorem e_isi (T : String) : fIsi T f env = bd (f env) fun x => lf (oIsi T x) := rfl
@[simp] theorem e_lc (vs : List Nat) (tg : D → Env → Option Env) (l : Env → M (List D)) : fLc vs tg t f l env = bd (l env) fun ds => lf (if ds.length ≤ sizeLine then (lcF tg t f (wipeE env vs) ds).map fun ys => ((1, .lst ys) : Sv) else none) := rfl
@[simp] theorem e_gN (i : Nat) (d : D) : gN i d env = some (env.set i (some (0, d))) := rfl
@[simp] theorem e_gT (is : List Nat) (ds : List D) : gT is (.tup ds) env = setsE is ds env := rfl
@[simp] theorem e_asL (n : Nat) (ds : List D) : asL (n, .lst ds) = some (.ok ds) := rfl
@[simp] theorem e_asLs (n : Nat) (ds : List D) : asL (n, .sl ds) = some (.ok ds) := rfl
@[simp] theorem e_asT (n : Nat) (ds : List D) : asTp (n, .tup ds) = some (.ok ds) := rfl
@[simp] theorem e_asS (n : Nat) (x : Str) : asSg (n, .str x) = some (.ok (sgD x)) := rfl
variable {g1 g2 : Gs}
@[simp] theorem e_gNil : gNil env = some (.nx env) := rfl
@[simp] theorem e_gSet (i : Nat) : gSet i f env = gM (f env) env fun x => some (.nx (env.set i (some x))) := rfl
@[simp] theorem e_gAsg (tg : D → Env → Option Env) : gAsg tg f env = gM (f env) env fun x => if x.1 = 0 then (tg x.2 env).map .nx else none := rfl
@[simp] theorem e_gRet : gRet f env = gM (f env) env fun x => some (.rt x) := rfl
@[simp] theorem e_gRetN : gRetN env = some (.rt (0, .non)) := rfl
@[simp] theorem e_gDrop : gDrop f env = gM (f env) env fun _ => some (.nx env) := rfl
@[simp] theorem e_gIf : gIf t g1 g2 env = gM (t env) env fun b => if b then g1 env else g2 env := rfl
@[simp] theorem e_gFor (tg : D → Env → Option Env) (l : Env → M (List D)) : gFor tg l g1 env = gM (l env) env fun ds => forF tg g1 ds env := rfl
@[simp] theorem e_gFz (i : Nat) : gFz i g1 env = g1 (fzE i env) := rfl
theorem gSeq_nx {e2 : Env} (h : g1 env = some (.nx e2)) : gSeq g1 g2 env = g2 e2 := by
  show (match g1 env with | some (.nx env') => g2 env' | r => r) = _
  rw [h]
theorem gSeq_rt {x : Sv} (h : g1 env = some (.rt x)) : gSeq g1 g2 env = some (.rt x) := by
  show (match g1 env with | some (.nx env') => g2 env' | r => r) = _
  rw [h]
theorem runG_rt {N : List Str} {n : Nat} {ds : List D} {x : Sv} (hl : ds.length = n) (h : g1 (env0 N ds) = some (.rt x)) : runG N n g1 ds = some (.ok x) := by
  show (if ds.length = n then (match g1 (env0 N ds) with | some (.nx _) => M.ok (0, .non) | some (.rt x) => M.ok x | some (.er e _) => M.er e | _ => M.no) else M.no) = _
  rw [if_pos hl, h]
theorem runG_er {N : List Str} {n : Nat} {ds : List D} {x : XD} {e2 : Env} (hl : ds.length = n) (h : g1 (env0 N ds) = some (.er x e2)) : runG N n g1 ds = some (.error x) := by
  show (if ds.length = n then (match g1 (env0 N ds) with | some (.nx _) => M.ok (0, .non) | some (.rt x) => M.ok x | some (.er e _) => M.er e | _ => M.no) else M.no) = _
  rw [if_pos hl, h]
theorem clR0 {xs : List Sv} {x : Sv} (h : lv0 xs = true) : clR xs (some (.ok x)) = some (.ok x) := by
  show (if (lv0 xs || flatN x.1 x.2) = true then M.ok x else M.no) = _
  rw [h]
  rfl
theorem clRf {xs : List Sv} {x : Sv} (h : flatN x.1 x.2 = true) : clR xs (some (.ok x)) = some (.ok x) := by
  show (if (lv0 xs || flatN x.1 x.2) = true then M.ok x else M.no) = _
  rw [h, Bool.or_true]
  rfl
end
@[simp] theorem clR_i (xs : List Sv) (i : Int) : clR xs (some (.ok (0, .int i))) = some (.ok (0, .int i)) := clRf rfl
@[simp] theorem clR_b (xs : List Sv) (i : Bool) : clR xs (some (.ok (0, .bl i))) = some (.ok (0, .bl i)) := clRf rfl
@[simp] theorem clR_s (xs : List Sv) (i : Str) : clR xs (some (.ok (0, .str i))) = some (.ok (0, .str i)) := clRf rfl
@[simp] theorem clR_n (xs : List Sv) : clR xs (some (.ok (0, .non))) = some (.ok (0, .non)) := clRf rfl
theorem oLst_ok {n : Nat} {xs : List Sv} (h : (xs.all fun x => x.1 == n) = true) (h2 : xs.length ≤ sizeLine) : oLst n xs = some (n + 1, .lst (xs.map (·.2))) := if_pos ⟨h, h2⟩
theorem oTup_ok {xs : List Sv} (h : (xs.all fun x => x.1 == 0) = true) (h2 : xs.length ≤ sizeLine) : oTup xs = some (0, .tup (xs.map (·.2))) := if_pos ⟨h, h2⟩
theorem small_le {n : Nat} (h : n ≤ 100000) : n ≤ sizeLine := by rw [sizeLine_eq]; omega
/-! ### comprehensions and loops -/
theorem lcF_of {t : D → Env → Option Env} {c : Env → M Bool} {e : Env → M Sv} {env : Env} (p : D → Bool) (h : D → D) : ∀ (ds : List D), (∀ d ∈ ds, ∃ env', t d env = some env' ∧ c env' = some (.ok (p d)) ∧ (p d = true → e env' = some (.ok (0, h d)))) → lcF t c e env ds = some ((ds.filter p).map h)
  | [], _ => rfl
  | d :: ds, H => by
    obtain ⟨env', e1, e2, e3⟩ := H d (List.mem_cons_self ..)
    have ih := lcF_of p h ds fun x m => H x (List.mem_cons_of_mem _ m)
    unfold lcF
    rw [e1]
    simp only [e2]
    cases hp : p d with
    | false =>
      rw [List.filter_cons_of_neg (by rw [hp]; simp)]
      exact ih
    | true =>
      rw [List.filter_cons_of_pos hp]
      simp only [e3 hp, ih]
      rfl
theorem lcF_map {t : D → Env → Option Env} {e : Env → M Sv} {env : Env} (h : D → D) (ds : List D) (H : ∀ d ∈ ds, ∃ env', t d env = some env' ∧ e env' = some (.ok (0, h d))) : lcF t fYes e env ds = some (ds.map h) := by
  have := lcF_of (t := t) (c := fYes) (e := e) (env := env) (fun _ => true) h ds fun d m => by
    obtain ⟨env', a, b⟩ := H d m
    exact ⟨env', a, rfl, fun _ => b⟩
  rw [this, List.filter_eq_self.mpr (fun _ _ => rfl)]
theorem forF_inv {t : D → Env → Option Env} {g : Gs} (I : Env → Prop) : ∀ (ds : List D), (∀ d ∈ ds, ∀ env, I env → ∃ e1 e2, t d env = some e1 ∧ g e1 = some (.nx e2) ∧ I e2) → ∀ env, I env → ∃ env', forF t g ds env = some (.nx env') ∧ I env'
  | [], _, env, i => ⟨env, rfl, i⟩
  | d :: ds, H, env, i => by
    obtain ⟨e1, e2, a, b, i2⟩ := H d (List.mem_cons_self ..) env i
    obtain ⟨env', e, i'⟩ := forF_inv I ds (fun x m => H x (List.mem_cons_of_mem _ m)) e2 i2
    refine ⟨env', ?_, i'⟩
    show (match t d env with | none => none | some env' => match g env' with | some (.nx env2) => forF t g ds env2 | some (.ct env2) => forF t g ds env2 | some (.bk env2) => some (.nx env2) | r => r) = _
    rw [a]
    show (match g e1 with | some (.nx env2) => forF t g ds env2 | some (.ct env2) => forF t g ds env2 | some (.bk env2) => some (.nx env2) | r => r) = _
    rw [b]
    exact e
theorem len2 {α : Type} {l : List α} (h : l.length = 2) : ∃ a b, l = [a, b] := by
  match l, h with | [a, b], _ => exact ⟨a, b, rfl⟩
end DP
/-! DP: texts and truths, read in plain Lean. -/
namespace DP
open PySem L2 PySem.Spec PyProof.Rows
def sq (r : Option Fl) (g : Gs) : Option Fl := match r with
  | some (.nx e) => g e
  | r => r
@[simp] theorem e_gSeq (g1 g2 : Gs) (env : Env) : gSeq g1 g2 env = sq (g1 env) g2 := rfl
@[simp] theorem sq_nx (e : Env) (g : Gs) : sq (some (.nx e)) g = g e := rfl
@[simp] theorem sq_rt (x : Sv) (g : Gs) : sq (some (.rt x)) g = some (.rt x) := rfl
@[simp] theorem sq_er (x : XD) (e : Env) (g : Gs) : sq (some (.er x e)) g = some (.er x e) := rfl
@[simp] theorem sq_bk (e : Env) (g : Gs) : sq (some (.bk e)) g = some (.bk e) := rfl
@[simp] theorem sq_ct (e : Env) (g : Gs) : sq (some (.ct e)) g = some (.ct e) := rfl
def cs (x : Str) : List Nat := x.cps.toList
def TxOk (x : Str) : Prop := ∀ c ∈ cs x, c < 0x110000
theorem cs_len (x : Str) : (cs x).length = x.length := Array.length_toList
theorem cs_app (x y : Str) : cs (x ++ y) = cs x ++ cs y := Array.toList_append
theorem cs_cut (z : Str) (lo hi : Option Int) : cs (cutS z lo hi) = ((cs z).drop (HT.sIx z.length 0 lo)).take (HT.sIx z.length z.length hi - HT.sIx z.length 0 lo) := rfl
theorem cs_inj {x y : Str} (h : cs x = cs y) : x = y := by
  obtain ⟨⟨x⟩⟩ := x
  obtain ⟨⟨y⟩⟩ := y
  have h' : x = y := h
  rw [h']
theorem TxOk.app {x y : Str} (h : TxOk x) (k : TxOk y) : TxOk (x ++ y) := fun c m => by
  rw [cs_app] at m
  rcases List.mem_append.mp m with m | m
  · exact h c m
  · exact k c m
theorem TxOk.cut {x : Str} (h : TxOk x) (lo hi : Option Int) : TxOk (cutS x lo hi) := fun c m => by
  rw [cs_cut] at m
  exact h c (List.mem_of_mem_drop (List.mem_of_mem_take m))
theorem cs_join0 (ys : List Str) : cs (Txt.join "" ys) = (ys.map cs).flatten := by
    show cs (PySem.Builtin.Str.glued "" ys) = _
    rw [PySem.StrLaws.glued_eq_join]
    induction ys with
    | nil => rfl
    | cons y r ih =>
      cases r with
      | nil => show cs y = cs y ++ []; rw [List.append_nil]
      | cons z r =>
        show cs (y ++ "" ++ Str.join "" (z :: r)) = cs y ++ ((z :: r).map cs).flatten
        rw [cs_app, cs_app, ih]
        rw [show cs ("" : Str) = [] from rfl, List.append_nil]
theorem strOk_of {x : Str} (h : TxOk x) : PyData.strOk x = true := by
  unfold PyData.strOk
  rw [Array.all_eq_true_iff_forall_mem]
  exact fun c m => decide_eq_true (h c (Array.mem_toList_iff.mpr m))
/-! ### kinds -/
section
variable {n : Nat} {b : Bool} {i : Int} {x : Str} {xs : List D} {ks : List (List Key)} {k1 : List Key}
@[simp] theorem isi_ss : oIsi "str" (n, .str x) = some (0, .bl true) := rfl
@[simp] theorem isi_si : oIsi "str" (n, .int i) = some (0, .bl false) := rfl
@[simp] theorem isi_sb : oIsi "str" (n, .bl b) = some (0, .bl false) := rfl
@[simp] theorem isi_sn : oIsi "str" (n, .non) = some (0, .bl false) := rfl
@[simp] theorem isi_sl : oIsi "str" (n, .lst xs) = some (0, .bl false) := rfl
@[simp] theorem isi_st : oIsi "str" (n, .tup xs) = some (0, .bl false) := rfl
@[simp] theorem isi_sd : oIsi "str" (n, .dT ks xs) = some (0, .bl false) := rfl
@[simp] theorem isi_sk : oIsi "str" (n, .dK k1 xs) = some (0, .bl false) := rfl
@[simp] theorem isi_is : oIsi "int" (n, .str x) = some (0, .bl false) := rfl
@[simp] theorem isi_ii : oIsi "int" (n, .int i) = some (0, .bl true) := rfl
@[simp] theorem isi_ib : oIsi "int" (n, .bl b) = some (0, .bl true) := rfl
@[simp] theorem isi_in : oIsi "int" (n, .non) = some (0, .bl false) := rfl
@[simp] theorem isi_il : oIsi "int" (n, .lst xs) = some (0, .bl false) := rfl
@[simp] theorem isi_it : oIsi "int" (n, .tup xs) = some (0, .bl false) := rfl
@[simp] theorem isi_id : oIsi "int" (n, .dT ks xs) = some (0, .bl false) := rfl
@[simp] theorem isi_ik : oIsi "int" (n, .dK k1 xs) = some (0, .bl false) := rfl
@[simp] theorem isi_bs : oIsi "bool" (n, .str x) = some (0, .bl false) := rfl
@[simp] theorem isi_bi : oIsi "bool" (n, .int i) = some (0, .bl false) := rfl
@[simp] theorem isi_bb : oIsi "bool" (n, .bl b) = some (0, .bl true) := rfl
@[simp] theorem isi_bn : oIsi "bool" (n, .non) = some (0, .bl false) := rfl
@[simp] theorem isi_bl : oIsi "bool" (n, .lst xs) = some (0, .bl false) := rfl
@[simp] theorem isi_bt : oIsi "bool" (n, .tup xs) = some (0, .bl false) := rfl
@[simp] theorem isi_bd : oIsi "bool" (n, .dT ks xs) = some (0, .bl false) := rfl
@[simp] theorem isi_bk : oIsi "bool" (n, .dK k1 xs) = some (0, .bl false) := rfl
end
@[simp] theorem inA_s (n m c : Nat) (z : Str) : oInA false (n, .str ⟨#[c]⟩) (m, .str z) = some (0, .bl (decide (c ∈ cs z))) := rfl
@[simp] theorem notInA_s (n m c : Nat) (z : Str) : oInA true (n, .str ⟨#[c]⟩) (m, .str z) = some (0, .bl (!decide (c ∈ cs z))) := rfl
/-! ### comprehensions over what is written -/
theorem lcF_ofc {γ : Type} (mk : γ → D) {t : D → Env → Option Env} {c : Env → M Bool} {e : Env → M Sv} {env : Env} (p : γ → Bool) (h : γ → D) : ∀ (ds : List γ), (∀ d ∈ ds, ∃ env', t (mk d) env = some env' ∧ c env' = some (.ok (p d)) ∧ (p d = true → e env' = some (.ok (0, h d)))) → lcF t c e env (ds.map mk) = some ((ds.filter p).map h)
  | [], _ => rfl
  | d :: ds, H => by
    obtain ⟨env', e1, e2, e3⟩ := H d (List.mem_cons_self ..)
    have ih := lcF_ofc mk p h ds fun x m => H x (List.mem_cons_of_mem _ m)
    rw [List.map_cons]
    unfold lcF
    rw [e1]
    simp only [e2]
    cases hp : p d with
    | false =>
      rw [List.filter_cons_of_neg (by rw [hp]; simp)]
      exact ih
    | true =>
      rw [List.filter_cons_of_pos hp]
      simp only [e3 hp, ih]
      rfl
theorem lcF_mapc {γ : Type} (mk : γ → D) {t : D → Env → Option Env} {e : Env → M Sv} {env : Env} (h : γ → D) (ds : List γ) (H : ∀ d ∈ ds, ∃ env', t (mk d) env = some env' ∧ e env' = some (.ok (0, h d))) : lcF t fYes e env (ds.map mk) = some (ds.map h) := by
  have := lcF_ofc mk (t := t) (c := fYes) (e := e) (env := env) (fun _ => true) h ds fun d m => by
    obtain ⟨env', a, b⟩ := H d m
    exact ⟨env', a, rfl, fun _ => b⟩
  rw [this, List.filter_eq_self.mpr (fun _ _ => rfl)]
theorem bls_mapc {γ : Type} (p : γ → Bool) : ∀ zs : List γ, bls (zs.map fun z => D.bl (p z)) = some (zs.map p)
  | [] => rfl
  | z :: r => by
    show (bls (r.map fun z => D.bl (p z))).map (p z :: ·) = _
    rw [bls_mapc p r]
    rfl
theorem all_map {γ : Type} (p : γ → Bool) (zs : List γ) : oAll (1, .lst (zs.map fun z => D.bl (p z))) = some (0, .bl (zs.all p)) := by
  show (if 1 ≤ 1 then (bls (zs.map fun z => D.bl (p z))).map fun bs => ((0, .bl (bs.all id)) : Sv) else none) = _
  rw [bls_mapc, if_pos (Nat.le_refl 1)]
  show some ((0, .bl ((zs.map p).all id)) : Sv) = _
  rw [List.all_map]
  rfl
theorem txs_mapc {γ : Type} (p : γ → Str) : ∀ zs : List γ, txs (zs.map fun z => D.str (p z)) = some (zs.map p)
  | [] => rfl
  | z :: r => by
    show (txs (r.map fun z => D.str (p z))).map (p z :: ·) = _
    rw [txs_mapc p r]
    rfl
theorem ints_mapc {γ : Type} (p : γ → Int) : ∀ zs : List γ, intsOf (zs.map fun z => D.int (p z)) = some (zs.map p)
  | [] => rfl
  | z :: r => by
    show (intsOf (r.map fun z => D.int (p z))).map (p z :: ·) = _
    rw [ints_mapc p r]
    rfl
/-! ### equality of what is written -/
theorem pydL_mapc {γ : Type} (p : γ → D) : ∀ zs : List γ, pydL (zs.map p) = zs.map fun z => pyd (p z)
  | [] => rfl
  | z :: r => by
    show pyd (p z) :: pydL (r.map p) = _
    rw [pydL_mapc p r]
    rfl
theorem lay_str {x : Str} (h : TxOk x) : (pyd (.str x)).canLay0 = true := by
  show PyData.canLay0 (.str x) = true
  rw [PyData.canLay0]
  exact strOk_of h
/-- a list of things that lie flat -/
theorem shp_lst : ∀ xs : List D, (∀ d ∈ xs, (pyd d).canLay0 = true ∧ (pyd d).depth ≤ 62) → shp (.lst xs) = true := fun xs h => by
  have h1 : ∀ xs : List D, (∀ d ∈ xs, (pyd d).canLay0 = true ∧ (pyd d).depth ≤ 62) → PyData.canLayAll0 (pydL xs) = true ∧ PyData.depthAll (pydL xs) ≤ 62 := by
    intro xs
    induction xs with
    | nil => intro _; exact ⟨rfl, by rw [show pydL [] = [] from rfl, PyData.depthAll]; omega⟩
    | cons d r ih =>
      intro h
      obtain ⟨a, b⟩ := ih fun x m => h x (List.mem_cons_of_mem _ m)
      obtain ⟨a', b'⟩ := h d (List.mem_cons_self ..)
      constructor
      · show PyData.canLayAll0 (pyd d :: pydL r) = true
        rw [PyData.canLayAll0, a, a']; rfl
      · show PyData.depthAll (pyd d :: pydL r) ≤ 62
        rw [PyData.depthAll]; omega
  obtain ⟨a, b⟩ := h1 xs h
  show ((PyData.list (pydL xs)).canLay0 && decide ((PyData.list (pydL xs)).depth ≤ 64)) = true
  rw [PyData.canLay0, PyData.depth, a, decide_eq_true (by omega)]
  rfl
theorem flat_lay {d : D} (h : flat d = true) (hs : ∀ x, d = .str x → TxOk x) : (pyd d).canLay0 = true ∧ (pyd d).depth ≤ 62 := by
  cases d with
  | non => exact ⟨rfl, by show PyData.depth .none ≤ 62; rw [PyData.depth]; omega⟩
  | bl b => exact ⟨rfl, by show PyData.depth (.bool b) ≤ 62; rw [PyData.depth]; omega⟩
  | int i => exact ⟨rfl, by show PyData.depth (.int i) ≤ 62; rw [PyData.depth]; omega⟩
  | str x => exact ⟨lay_str (hs x rfl), by show PyData.depth (.str x) ≤ 62; rw [PyData.depth]; omega⟩
  | _ => cases h
theorem eq_ok {n m : Nat} {d e : D} (h1 : shp d = true) (h2 : shp e = true) : oEq (n, d) (m, e) = some (0, .bl (eqD d e)) := by
  show (if shp d && shp e then some ((0, .bl (eqD d e)) : Sv) else none) = _
  rw [h1, h2]
  rfl
theorem ne_ok {n m : Nat} {d e : D} (h1 : shp d = true) (h2 : shp e = true) : oNe (n, d) (m, e) = some (0, .bl (!eqD d e)) := by
  show (if shp d && shp e then some ((0, .bl (!eqD d e)) : Sv) else none) = _
  rw [h1, h2]
  rfl
theorem eqD_nil (xs : List D) : eqD (.lst xs) (.lst []) = xs.isEmpty := by
  cases xs with
  | nil => rfl
  | cons d r => rfl
theorem shp_nil : shp (.lst []) = true := shp_lst [] (fun _ m => nomatch m)
theorem rg_ok {n : Nat} {i : Int} (h : -(2 ^ 62) ≤ i ∧ i < 2 ^ 62) : asR1 [(n, .int i)] = some (.ok (rgD 0 i.toNat)) := if_pos h
theorem join_ok {n m : Nat} {a : Str} {γ : Type} (zs : List γ) (p : γ → Str) (hm : m ≤ 1) (h : ((zs.map p).map (·.length)).sum + (zs.map p).length * a.length ≤ 16777216) : oJoin (n, .str a) (m, .lst (zs.map fun z => D.str (p z))) = some (0, .str (Txt.join a (zs.map p))) := by
  show ((if m ≤ 1 then some (zs.map fun z => D.str (p z)) else none).bind fun ds => (txs ds).bind fun ys => if (ys.map (·.length)).sum + ys.length * a.length ≤ 16777216 then some ((0, .str (Txt.join a ys)) : Sv) else none) = _
  rw [if_pos hm]
  show ((txs (zs.map fun z => D.str (p z))).bind fun ys => if (ys.map (·.length)).sum + ys.length * a.length ≤ 16777216 then some ((0, .str (Txt.join a ys)) : Sv) else none) = _
  rw [txs_mapc]
  exact if_pos h
end DP
namespace DP
theorem pick_of {γ δ : Type} [Inhabited δ] {l : List γ} {R : γ → δ → Prop} (h : ∀ i ∈ l, ∃ c, R i c) : ∃ f : γ → δ, ∀ i ∈ l, R i (f i) := by
  have h' : ∀ i, ∃ c, i ∈ l → R i c := fun i => by
    by_cases m : i ∈ l
    · obtain ⟨c, q⟩ := h i m
      exact ⟨c, fun _ => q⟩
    · exact ⟨default, fun m' => absurd m' m⟩
  exact ⟨fun i => (h' i).choose, fun i m => (h' i).choose_spec m⟩
end DP
namespace DP
theorem sq_for {t : D → Env → Option Env} {g g2 : Gs} {ds : List D} {env : Env} {r : Option Fl} (I : Env → Prop) (hi : I env) (hb : ∀ d ∈ ds, ∀ env, I env → ∃ e1 e2, t d env = some e1 ∧ g e1 = some (.nx e2) ∧ I e2) (hk : ∀ env', I env' → g2 env' = r) : sq (forF t g ds env) g2 = r := by
  obtain ⟨env', e, i⟩ := forF_inv I ds hb env hi
  rw [e]
  exact hk env' i
end DP
namespace DP
theorem ex_nx {t : D → Env → Option Env} {g : Gs} {d : D} {env e1 : Env} {I : Env → Prop} (h1 : t d env = some e1) (h2 : ∃ e2, g e1 = some (.nx e2) ∧ I e2) : ∃ e1 e2, t d env = some e1 ∧ g e1 = some (.nx e2) ∧ I e2 := by
  obtain ⟨e2, a, b⟩ := h2
  exact ⟨e1, e2, h1, a, b⟩
theorem log2_small {n : Nat} (h : n < 10 ^ 500) : n.log2 < 1920 := by
  by_cases h0 : n = 0
  · rw [h0]; decide
  · exact (Nat.log2_lt h0).mpr (Nat.lt_of_lt_of_le h (by decide))
theorem str_int {n : Nat} {i : Int} (h : i.natAbs < 10 ^ 500) : oStr (n, .int i) = some (0, .str (PySem.Str.ofString (toString i))) := by
  show (if i.natAbs.log2 < 1920 then some ((0, .str (toString i)) : Sv) else none) = _
  rw [if_pos (log2_small h)]
end DP
namespace DP
theorem ex_set {i : Nat} {f : Env → M Sv} {g : Gs} {env : Env} {x : Sv} {I : Env → Prop} (h : f env = some (.ok x)) (k : ∃ e2, g (env.set i (some x)) = some (.nx e2) ∧ I e2) : ∃ e2, gSeq (gSet i f) g env = some (.nx e2) ∧ I e2 := by
  rw [e_gSeq, e_gSet, h]
  exact k
end DP
namespace DP
@[simp] theorem oLst_nil (n : Nat) : oLst n [] = some (n + 1, .lst []) := rfl
end DP
set_option maxHeartbeats 1000000
namespace G1
open PySem L2 DP
theorem spread_ok (c : Int) : m__law_spread [.int c, .int 3] = some (.ok (0, .int ((c + 3) * 48292 % 2147483647))) := by
  simp [m__law_spread, runG, g__law_spread, env0, mulA_i, mod_i] <;> rfl
abbrev big : Int := 1000000000000000000000000000000000000000000000000000000000000
theorem whole_i (n : Int) : m_is_whole [.int n] = some (.ok (0, .bl true)) := rfl
theorem number_i (n : Int) : m_is_number [.int n] = some (.ok (0, .bl (decide (-big ≤ n) && decide (n ≤ big)))) := by
  by_cases h : -big ≤ n <;> simp [m_is_number, runG, g_is_number, env0, whole_i, h] <;> rfl
theorem number_s (x : Str) : m_is_number [.str x] = some (.ok (0, .bl false)) := rfl
theorem number_b (x : Bool) : m_is_number [.bl x] = some (.ok (0, .bl false)) := rfl
theorem number_n : m_is_number [.non] = some (.ok (0, .bl false)) := rfl
theorem number_l (x : List D) : m_is_number [.lst x] = some (.ok (0, .bl false)) := rfl
theorem number_t (x : List D) : m_is_number [.tup x] = some (.ok (0, .bl false)) := rfl
theorem number_d : m_is_number [.dT [] []] = some (.ok (0, .bl false)) := rfl
theorem name_i (x : Int) : m_is_name [.int x] = some (.ok (0, .bl false)) := rfl
theorem name_b (x : Bool) : m_is_name [.bl x] = some (.ok (0, .bl false)) := rfl
theorem name_n : m_is_name [.non] = some (.ok (0, .bl false)) := rfl
theorem name_l (x : List D) : m_is_name [.lst x] = some (.ok (0, .bl false)) := rfl
theorem name_t (x : List D) : m_is_name [.tup x] = some (.ok (0, .bl false)) := rfl
theorem name_d : m_is_name [.dT [] []] = some (.ok (0, .bl false)) := rfl
abbrev lets : List Nat := cs "abcdefghijklmnopqrstuvwxyz"
def nameB (x : Str) : Bool := (decide ((1 : Int) ≤ x.length) && decide ((x.length : Int) ≤ 8)) && (cs x).all fun c => decide (c ∈ lets)
theorem sg_len (x : Str) : (sgD x).length = x.length := by
  show (x.cps.toList.map _).length = _
  rw [List.length_map]
  exact cs_len x
theorem name_s (x : Str) (h : x.length ≤ 10000) : m_is_name [.str x] = some (.ok (0, .bl (nameB x))) := by
  have h1 := lcF_mapc (fun c => D.str ⟨#[c]⟩) (t := gN 1) (e := f2 (oInA false) (fVarW 1) (fK (.str "abcdefghijklmnopqrstuvwxyz"))) (env := [some (0, .str x), none]) (fun c => .bl (decide (c ∈ lets))) (cs x) fun c m => ⟨_, rfl, by simp <;> rfl⟩
  have h2 : ((cs x).map fun c => D.str ⟨#[c]⟩) = sgD x := rfl
  rw [h2] at h1
  have h3 : x.length ≤ sizeLine := small_le (by omega)
  unfold nameB
  by_cases a : (1 : Int) ≤ x.length
  · by_cases b : (x.length : Int) ≤ 8
    · simp [m_is_name, runG, g_is_name, env0, len_s h3, wipeE, h1, all_map, sg_len, h3, a, b] <;> rfl
    · simp [m_is_name, runG, g_is_name, env0, len_s h3, wipeE, h1, all_map, sg_len, h3, a, b] <;> rfl
  · simp [m_is_name, runG, g_is_name, env0, len_s h3, wipeE, h1, all_map, sg_len, h3, a] <;> rfl
theorem lets_ok : ∀ c ∈ lets, c < 0x110000 := by decide
theorem text_ok (d : Int) (h0 : 0 ≤ d) : ∃ t : Str, t.length ≤ 20 ∧ TxOk t ∧ m__law_text [.int d] = some (.ok (0, .str t)) := by
  obtain ⟨k, hk⟩ : ∃ k : Nat, d % 10 = k := ⟨(d % 10).toNat, by omega⟩
  have hk10 : k < 10 := by omega
  have hL : ("abcdefghijklmnopqrstuvwxyz" : Str).length ≤ sizeLine := small_le (by decide)
  have h26 : lets.length = 26 := by decide
  have key : ∀ i ∈ List.range k, ∃ c, c ∈ lets ∧ oIxA (0, .str "abcdefghijklmnopqrstuvwxyz") (0, .int (d / (1 + 3 * (0 + (i : Nat))) % 26)) = some (0, .str ⟨#[c]⟩) := by
    intro i m
    obtain ⟨c, e, q⟩ := ixA_s (n := 0) (m := 0) (x := "abcdefghijklmnopqrstuvwxyz") (i := d / (1 + 3 * (0 + (i : Nat))) % 26) hL (by omega) (by
      have : (("abcdefghijklmnopqrstuvwxyz" : Str).cps.toList.length) = 26 := h26
      rw [this]; omega)
    exact ⟨c, List.mem_of_getElem? e, q⟩
  obtain ⟨pick, hp⟩ : ∃ pick : Nat → Nat, ∀ i ∈ List.range k, pick i ∈ lets ∧ oIxA (0, .str "abcdefghijklmnopqrstuvwxyz") (0, .int (d / (1 + 3 * (0 + (i : Nat))) % 26)) = some (0, .str ⟨#[pick i]⟩) :=
    pick_of key
  have h1 := lcF_mapc (fun i : Nat => D.int (0 + (i : Nat))) (t := gN 5) (e := f2 oIxA (fVarW 1) (f2 oMod (f2 oDiv (fVarW 0) (f2 oAddA (fK (.int 1)) (f2 oMulA (fK (.int 3)) (fVarW 5)))) (fK (.int 26)))) (env := [some (0, .int d), some (0, .str "abcdefghijklmnopqrstuvwxyz"), none, none, none, none]) (fun i => .str ⟨#[pick i]⟩) (List.range k) fun i m => ⟨_, rfl, by
    have hi : i < 10 := by have := List.mem_range.mp m; omega
    have q := (hp i m).2
    have d1 : oDiv (0, .int d) (0, .int (1 + 3 * (0 + (i : Nat)))) = some (0, .int (d / (1 + 3 * (0 + (i : Nat))))) := div_i ⟨by omega, by omega⟩
    simp only [Int.zero_add] at q d1 ⊢
    simp [mulA_i, mod_i, d1, q] <;> rfl⟩
  have h2 : ((List.range k).map fun i : Nat => D.int (0 + (i : Nat))) = rgD 0 k := rfl
  rw [h2] at h1
  have tl : ((List.range k).map fun i => (⟨#[pick i]⟩ : Str)).map cs = (List.range k).map fun i => [pick i] := by rw [List.map_map]; rfl
  have ts : ((((List.range k).map fun i => (⟨#[pick i]⟩ : Str))).map (·.length)).sum = k := by
    have : ((List.range k).map fun i => (⟨#[pick i]⟩ : Str)).map (·.length) = List.replicate k 1 := by
      rw [List.map_map]
      apply List.ext_getElem
      · simp
      · intro i a b; simp; rfl
    rw [this]; simp
  have hj := join_ok (n := 0) (m := 1) (a := "") (List.range k) (fun i => (⟨#[pick i]⟩ : Str)) (Nat.le_refl 1) (by rw [ts, show ("" : Str).length = 0 from rfl]; omega)
  generalize hT : Txt.join "" ((List.range k).map fun i => (⟨#[pick i]⟩ : Str)) = T at hj
  have csT : cs T = (List.range k).map pick := by
    rw [← hT, cs_join0, tl]
    induction List.range k with
    | nil => rfl
    | cons x r ih => simp [ih]
  have lT : T.length = k := by rw [← cs_len, csT]; simp
  have oT : TxOk T := fun c m => by
    rw [csT] at m
    obtain ⟨i, a, b⟩ := List.mem_map.mp m
    rw [← b]
    exact lets_ok _ (hp i a).1
  obtain ⟨A, hA⟩ : ∃ A : Int, d / 10 % ((T.length : Int) + 1) = A := ⟨_, rfl⟩
  have k2 : T.length ≤ sizeLine := small_le (by omega)
  have m1 : oMod (0, .int (d / 10)) (0, .int ((T.length : Int) + 1)) = some (0, .int A) := by rw [mod_i (by omega), hA]
  obtain ⟨sd, es, qs⟩ := ixA_l (n := 1) (m := 0) (xs := [.str "", .str "", .str "A", .str " ", .str "1", .str "-", .str "_", .str "\n"]) (i := d / 100 % 8) (Nat.le_refl 1) (by omega) (by show d / 100 % 8 < (8 : Int); omega)
  obtain ⟨S, rfl, lS, oS⟩ : ∃ S : Str, sd = .str S ∧ S.length ≤ 1 ∧ TxOk S := by
    have m := List.mem_of_getElem? es
    simp only [List.mem_cons, List.not_mem_nil, or_false] at m
    rcases m with rfl | rfl | rfl | rfl | rfl | rfl | rfl | rfl <;> exact ⟨_, rfl, by decide, by unfold TxOk; decide⟩
  have c1 := cutS_length T none (some A)
  have c2 := cutS_length T (some A) none
  have l1 : (cutS T none (some A) ++ S).length ≤ 10 := by
    rw [← cs_len, cs_app, List.length_append, cs_len, cs_len]; omega
  have a1 : oAddA (0, .str (cutS T none (some A))) (0, .str S) = some (0, .str (cutS T none (some A) ++ S)) := addA_s (small_le (by omega))
  have a2 : oAddA (0, .str (cutS T none (some A) ++ S)) (0, .str (cutS T (some A) none)) = some (0, .str (cutS T none (some A) ++ S ++ cutS T (some A) none)) := addA_s (small_le (by omega))
  refine ⟨cutS T none (some A) ++ S ++ cutS T (some A) none, ?_, ((oT.cut _ _).app oS).app (oT.cut _ _), ?_⟩
  · rw [← cs_len, cs_app, List.length_append, cs_len, cs_len]; omega
  · have hr : asR1 [(0, .int (d % 10))] = some (.ok (rgD 0 k)) := by rw [hk]; exact rg_ok (n := 0) (i := (k : Int)) (by omega)
    have hrl : (rgD 0 k).length ≤ sizeLine := by unfold rgD; rw [List.length_map, List.length_range]; exact small_le (by omega)
    have t8 : ∀ xs : List Sv, xs.length = 8 → (xs.all fun x => x.1 == 0) = true → oLst 0 xs = some (1, .lst (xs.map (·.2))) := fun xs a b => oLst_ok b (small_le (by omega))
    simp [m__law_text, runG, g__law_text, env0, mod_i, hr, hrl, wipeE, h1, tyM, hj, div_i, len_s k2, m1, t8, qs, slS k2, a1, a2] <;> rfl
theorem number_ok (c d : Int) (h0 : 0 ≤ d) (h1 : d < 2147483647) : ∃ n : Int, n.natAbs < 10 ^ 62 ∧ m__law_number [.int c, .int d] = some (.ok (0, .int n)) := by
  obtain ⟨B, hB⟩ : ∃ B : Int, B = big := ⟨_, rfl⟩
  have hp : oPow (0, .int 10) (0, .int 60) = some (0, .int B) := by rw [hB]; rfl
  have hB0 : 0 < B := by rw [hB]; decide
  obtain ⟨r, hr⟩ : ∃ r, c % (2 * B) = r := ⟨_, rfl⟩
  obtain ⟨u, hu⟩ : ∃ r, c % B = r := ⟨_, rfl⟩
  have r0 : 0 ≤ r := by rw [← hr]; exact Int.emod_nonneg _ (by omega)
  have r1 : r < 2 * B := by rw [← hr]; exact Int.emod_lt_of_pos _ (by omega)
  have u0 : 0 ≤ u := by rw [← hu]; exact Int.emod_nonneg _ (by omega)
  have u1 : u < B := by rw [← hu]; exact Int.emod_lt_of_pos _ (by omega)
  have t8 : ∀ xs : List Sv, xs.length ≤ 8 → (xs.all fun x => x.1 == 0) = true → oLst 0 xs = some (1, .lst (xs.map (·.2))) := fun xs a b => oLst_ok b (small_le (by omega))
  obtain ⟨sd, es, qs⟩ := ixA_l (n := 1) (m := 0) (xs := [.int B, .int (B + 1), .int (-B), .int (-B - 1), .int (B - 1), .int 0, .int r, .int (-r), .int (u * (d % 3)), .int d]) (i := d / 3 % 10) (Nat.le_refl 1) (by omega) (by show d / 3 % 10 < (10 : Int); omega)
  obtain ⟨n, rfl, ln⟩ : ∃ S : Int, sd = .int S ∧ S.natAbs < 10 ^ 62 := by
    have m := List.mem_of_getElem? es
    have hm : u * (d % 3) ≤ u * 2 := Int.mul_le_mul_of_nonneg_left (by omega) u0
    have hm2 : 0 ≤ u * (d % 3) := Int.mul_nonneg u0 (by omega)
    simp only [List.mem_cons, List.not_mem_nil, or_false] at m
    have hB2 : B = 1000000000000000000000000000000000000000000000000000000000000 := hB
    rcases m with rfl | rfl | rfl | rfl | rfl | rfl | rfl | rfl | rfl | rfl <;> refine ⟨_, rfl, ?_⟩ <;> omega
  refine ⟨n, ln, ?_⟩
  have ad : ∀ xs ys : List D, xs.length ≤ 8 → ys.length ≤ 8 → oAddA (1, .lst xs) (1, .lst ys) = some (1, .lst (xs ++ ys)) := fun xs ys a b => addA_l (Nat.le_refl 1) (Nat.le_refl 1) (small_le (by omega))
  have mm : oMod (0, .int c) (0, .int (2 * B)) = some (0, .int r) := by rw [mod_i (by omega), hr]
  have mu : oMod (0, .int c) (0, .int B) = some (0, .int u) := by rw [mod_i (by omega), hu]
  have m2 : oMulA (0, .int 2) (0, .int B) = some (0, .int (2 * B)) := mulA_i (.inl (by decide))
  have m3 : oMulA (0, .int u) (0, .int (d % 3)) = some (0, .int (u * (d % 3))) := mulA_i (.inr (by omega))
  have m4 : oMod (0, .int d) (0, .int 3) = some (0, .int (d % 3)) := mod_i (by decide)
  have m5 : oDiv (0, .int d) (0, .int 3) = some (0, .int (d / 3)) := div_i (by decide)
  have m6 : oMod (0, .int (d / 3)) (0, .int 10) = some (0, .int (d / 3 % 10)) := mod_i (by decide)
  simp [m__law_number, runG, g__law_number, env0, hp, mm, mu, m2, m3, m4, m5, m6, t8, ad, qs] <;> rfl
theorem nameB_num (n : Int) : nameB (Str.ofString (toString n)) = false := by
  unfold nameB
  cases h : decide ((1 : Int) ≤ (Str.ofString (toString n)).length) with
  | false => rfl
  | true =>
    have h1 : (1 : Int) ≤ (Str.ofString (toString n)).length := of_decide_eq_true h
    have h2 : (cs (Str.ofString (toString n))).length = (Str.ofString (toString n)).length := cs_len _
    cases e : cs (Str.ofString (toString n)) with
    | nil => rw [e] at h2; rw [← h2] at h1; exact absurd h1 (by decide)
    | cons c r =>
      have hc : c ∈ (Str.ofString (toString n)).cps.toList := by show c ∈ cs _; rw [e]; exact List.mem_cons_self ..
      have : decide (c ∈ lets) = false := decide_eq_false fun m => by
        have hl : ∀ c ∈ lets, 96 < c := by decide
        have := hl c m
        exact PyProof.Rows.int_text_free' c ⟨by omega, by omega⟩ n hc
      rw [List.all_cons, this, Bool.false_and, Bool.and_false]
theorem filt (T : Str) (env : DP.Env) (hl : env.length = 11) : lcF (gN 9) (fT (f2 (oInA true) (fVarW 9) (fK (.str "abcdefghijklmnopqrstuvwxyz")))) (fVar 9) env (sgD T) = some (((cs T).filter fun c => !decide (c ∈ lets)).map fun c => D.str ⟨#[c]⟩) := by
  match env, hl with
  | [a0, a1, a2, a3, a4, a5, a6, a7, a8, a9, a10], _ =>
    exact lcF_ofc (fun c => D.str ⟨#[c]⟩) (fun c => !decide (c ∈ lets)) (fun c => D.str ⟨#[c]⟩) (cs T) fun c m => ⟨_, rfl, by simp <;> rfl, fun _ => by simp <;> rfl⟩
theorem bools (xs : List D) (bs : List Bool) (h : xs = bs.map D.bl) (env : DP.Env) (hl : env.length = 11) : lcF (gN 10) fYes (fIsi "bool" (fVarW 10)) env xs = some (bs.map fun _ => D.bl true) := by
  match env, hl with
  | [a0, a1, a2, a3, a4, a5, a6, a7, a8, a9, a10], _ =>
    rw [h]
    exact lcF_mapc D.bl (fun _ => D.bl true) bs fun c m => ⟨_, rfl, by simp <;> rfl⟩
theorem law_ok (ns : List Int) (h : ns.length ≤ 63) : m_law [.sl (ns.map D.int)] = some (.ok (0, .bl true)) := by
  refine runG_rt rfl ?_
  unfold g_law
  rw [e_gSeq, e_gFor]
  have ad : ∀ xs ys : List D, xs.length ≤ 63 → ys.length ≤ 63 → oAddA (1, .lst xs) (1, .lst ys) = some (1, .lst (xs ++ ys)) := fun xs ys a b => addA_l (Nat.le_refl 1) (Nat.le_refl 1) (small_le (by omega))
  have ct : cutD (ns.map D.int) none (some 60) = (ns.take (min 60 ns.length)).map D.int := by
    rw [show (some 60 : Option Int) = some ((60 : Nat) : Int) from rfl, cutD_to, List.length_map, List.map_take]
  have t8 : ∀ xs : List Sv, xs.length ≤ 9 → (xs.all fun x => x.1 == 0) = true → oLst 0 xs = some (1, .lst (xs.map (·.2))) := fun xs a b => oLst_ok b (small_le (by omega))
  obtain ⟨cells, hc⟩ : ∃ cells : List Int, cells = ns.take (min 60 ns.length) ++ [0] := ⟨_, rfl⟩
  have src : fSeq asL (f2 oAddA (fSl oSlL (fVarW 0) fO0 (fO1 (fK (.int 60)))) (fLst 0 (fCons (fK (.int 0)) fNil))) (env0 N_law [.sl (ns.map D.int)]) = some (.ok (cells.map D.int)) := by
    have hl : ((ns.take (min 60 ns.length)).map D.int).length ≤ 63 := by rw [List.length_map, List.length_take]; omega
    have a1 := ad ((ns.take (min 60 ns.length)).map D.int) [.int 0] hl (by show 1 ≤ 63; omega)
    simp [env0, slLsl, ct, t8] 
    simp only [List.map_take] at a1
    rw [a1, hc]
    simp [List.map_take] <;> rfl
  rw [src, gM_ok]
  refine sq_for (fun env => env.length = 11) rfl ?_ (fun env' _ => rfl)
  intro dd m env hl
  obtain ⟨c, _, rfl⟩ := List.mem_map.mp m
  match env, hl with
  | [a0, a1, a2, a3, a4, a5, a6, a7, a8, a9, a10], _ =>
  refine ex_nx (e1 := [a0, some (0, .int c), a2, a3, a4, a5, a6, a7, a8, a9, a10]) rfl ?_
  obtain ⟨d, hd⟩ : ∃ d : Int, (c + 3) * 48292 % 2147483647 = d := ⟨_, rfl⟩
  have hsp : m__law_spread [.int c, .int 3] = some (.ok (0, .int d)) := by rw [spread_ok, hd]
  have d0 : 0 ≤ d := by omega
  have d1 : d < 2147483647 := by omega
  obtain ⟨T, lT, oT, hT⟩ := text_ok d d0
  obtain ⟨n, ln, hn⟩ := number_ok c d d0 d1
  have ln2 : n.natAbs < 10 ^ 500 := Nat.lt_of_lt_of_le ln (by decide)
  have nT := name_s T (by omega)
  have lT2 : T.length ≤ sizeLine := small_le (by omega)
  have gT2 : (sgD T).length ≤ sizeLine := by rw [sg_len]; exact lT2
  have m9 : oMod (0, .int d) (0, .int 9) = some (0, .int (d % 9)) := mod_i (by decide)
  have hp : oPow (0, .int 10) (0, .int 60) = some (0, .int big) := rfl
  have sT := str_int (n := 0) ln2
  obtain ⟨SN, hSN⟩ : ∃ x, Str.ofString (toString n) = x := ⟨_, rfl⟩
  rw [hSN] at sT
  -- what is odd
  obtain ⟨od, eo, qo⟩ := ixA_l (n := 1) (m := 0) (xs := [.non, .bl true, .bl false, .lst [.str T], .tup [.str T], .dT [] [], .lst [], .str "", .str SN]) (i := d % 9) (Nat.le_refl 1) (by omega) (by show d % 9 < (9 : Int); omega)
  have ho : m_is_name [od] = some (.ok (0, .bl false)) ∧ m_is_number [od] = some (.ok (0, .bl false)) := by
    have mo := List.mem_of_getElem? eo
    simp only [List.mem_cons, List.not_mem_nil, or_false] at mo
    rcases mo with rfl | rfl | rfl | rfl | rfl | rfl | rfl | rfl | rfl
    · exact ⟨rfl, rfl⟩
    · exact ⟨rfl, rfl⟩
    · exact ⟨rfl, rfl⟩
    · exact ⟨rfl, rfl⟩
    · exact ⟨rfl, rfl⟩
    · exact ⟨rfl, rfl⟩
    · exact ⟨rfl, rfl⟩
    · exact ⟨by rw [name_s _ (by decide)]; rfl, rfl⟩
    · refine ⟨?_, rfl⟩
      rw [← hSN, name_s _ (Nat.le_trans (PyProof.Rows.int_text_len_1921 (log2_small ln2)) (by decide)), nameB_num]
  -- what is good
  have hgood : nameB T = ((decide ((1 : Int) ≤ T.length) && decide ((T.length : Int) ≤ 8)) && (((cs T).filter fun c => !decide (c ∈ lets)).map fun c => D.str ⟨#[c]⟩).isEmpty) := by
    unfold nameB
    congr 1
    induction cs T with
    | nil => rfl
    | cons x r ih =>
      rw [List.all_cons, List.filter_cons]
      cases hx : decide (x ∈ lets)
      · rfl
      · rw [ih]; rfl
  have hshape : shp (.lst (((cs T).filter fun c => !decide (c ∈ lets)).map fun c => D.str ⟨#[c]⟩)) = true := shp_lst _ fun y my => by
    obtain ⟨z, mz, rfl⟩ := List.mem_map.mp my
    refine flat_lay rfl fun x e => ?_
    cases e
    intro q mq
    have : q = z := List.mem_singleton.mp mq
    rw [this]
    exact oT z (List.mem_filter.mp mz).1
  have heq := eq_ok (n := 1) (m := 1) hshape shp_nil
  rw [eqD_nil] at heq
  have shb : ∀ bs : List Bool, shp (.lst (bs.map D.bl)) = true := fun bs => shp_lst _ fun y my => by
    obtain ⟨z, mz, rfl⟩ := List.mem_map.mp my
    exact flat_lay rfl fun x e => nomatch e
  obtain ⟨fit, hfit⟩ : ∃ b, (decide (-big ≤ n) && decide (n ≤ big)) = b := ⟨_, rfl⟩
  have nI := number_i n
  rw [hfit] at nI
  obtain ⟨good, hg⟩ : ∃ b, nameB T = b := ⟨_, rfl⟩
  rw [hg] at nT hgood
  have hne : oNe (0, .lst [.bl good, .bl false, .bl false, .bl fit, .bl false, .bl false]) (1, .lst [.bl good, .bl false, .bl false, .bl fit, .bl false, .bl false]) = some (0, .bl false) := by
    refine (ne_ok (n := 0) (m := 1) (shb [good, false, false, fit, false, false]) (shb [good, false, false, fit, false, false])).trans ?_
    cases good <;> cases fit <;> rfl
  have tp : oTup [(0, .str T)] = some (0, .tup [.str T]) := rfl
  refine ex_set (x := (0, .int d)) (by simp [hsp] <;> rfl) ?_
  refine ex_set (x := (0, .str T)) (by simp [hT] <;> rfl) ?_
  refine ex_set (x := (0, .bl good)) ?_ ?_
  · rw [hgood]
    by_cases p1 : (1 : Int) ≤ T.length
    · by_cases p2 : (T.length : Int) ≤ 8
      · simp [len_s lT2, p1, p2, gT2, wipeE, filt, t8, heq] <;> rfl
      · simp [len_s lT2, p1, p2, gT2, wipeE, filt, t8, heq] <;> rfl
    · simp [len_s lT2, p1, gT2, wipeE, filt, t8, heq] <;> rfl
  refine ex_set (x := (0, .int n)) (by simp [hn] <;> rfl) ?_
  refine ex_set (x := (0, od)) (by simp [sT, t8, tp, m9, qo] <;> rfl) ?_
  refine ex_set (x := (1, .lst [.bl good, .bl false, .bl false, .bl fit, .bl false, .bl false])) (by simp [ho.1, ho.2, nT, nI, name_i, number_s, t8] <;> rfl) ?_
  refine ex_set (x := (0, .bl fit)) ?_ ?_
  · rw [← hfit]
    by_cases p1 : -big ≤ n
    · simp [hp, p1] <;> rfl
    · simp [hp, p1] <;> rfl
  have hbools : ∀ env : DP.Env, env.length = 11 → lcF (gN 10) fYes (fIsi "bool" (fVarW 10)) env [.bl good, .bl false, .bl false, .bl fit, .bl false, .bl false] = some [.bl true, .bl true, .bl true, .bl true, .bl true, .bl true] := fun env h => bools _ [good, false, false, fit, false, false] rfl env h
  have hall : oAll (1, .lst [.bl true, .bl true, .bl true, .bl true, .bl true, .bl true]) = some (0, .bl true) := rfl
  have h6 : 6 ≤ sizeLine := small_le (by decide)
  simp [hne, fzE, wipeE, hbools, hall, t8, h6]
end G1
namespace G1
open PySem L2 DP
theorem all_mk {l : PySem.W.OpenLaw} {w : World} {K : PySem.W.Frag} {h : Heap} {mg : Str → Option Value} {fa : Addr} (X : K.In h) (G : h.Ns mainGlobals mg) (hfa : mg "law" = some (.ref fa))
    {oc0 : Value} {od0 an0 : Option Addr} {sl0 : Array (Option Value)} {kV0 dc0 pm0 cd0 ct0 : Value} {f0 : Addr} {oc1 : Value} {od1 an1 : Option Addr} {sl1 : Array (Option Value)} {kV1 dc1 pm1 cd1 ct1 : Value} {f1 : Addr} {oc2 : Value} {od2 an2 : Option Addr} {sl2 : Array (Option Value)} {kV2 dc2 pm2 cd2 ct2 : Value} {f2 : Addr} {oc3 : Value} {od3 an3 : Option Addr} {sl3 : Array (Option Value)} {kV3 dc3 pm3 cd3 ct3 : Value} {f3 : Addr} {oc4 : Value} {od4 an4 : Option Addr} {sl4 : Array (Option Value)} {kV4 dc4 pm4 cd4 ct4 : Value} {f4 : Addr} {oc5 : Value} {od5 an5 : Option Addr} {sl5 : Array (Option Value)} {kV5 dc5 pm5 cd5 ct5 : Value} {f5 : Addr} {oc6 : Value} {od6 an6 : Option Addr} {sl6 : Array (Option Value)} {kV6 dc6 pm6 cd6 ct6 : Value} {f6 : Addr} {oc7 : Value} {od7 an7 : Option Addr} {sl7 : Array (Option Value)} {kV7 dc7 pm7 cd7 ct7 : Value} {f7 : Addr} {t_LETTERS : Tok} {t_MOST_LETTERS : Tok} {t_MOST_NUMBER : Tok}
    (a0 : PySem.W.nsIn K mainGlobals "is_name" = some (some (.ref f0))) (l0 : K.lookup f0 = some ⟨oc0, od0, .func (PySem.W.fnOf "is_name" "is_name" (defArgs s_is_name) (defBody s_is_name) (defScope s_is_name) .none kV0 dc0 pm0 an0 cd0 ct0), sl0⟩) (c0 : PySem.W.codeIn K cd0 "is_name" = true) (k0 : PySem.W.keepIn K (.ref f0) = true)
    (a1 : PySem.W.nsIn K mainGlobals "is_whole" = some (some (.ref f1))) (l1 : K.lookup f1 = some ⟨oc1, od1, .func (PySem.W.fnOf "is_whole" "is_whole" (defArgs s_is_whole) (defBody s_is_whole) (defScope s_is_whole) .none kV1 dc1 pm1 an1 cd1 ct1), sl1⟩) (c1 : PySem.W.codeIn K cd1 "is_whole" = true) (k1 : PySem.W.keepIn K (.ref f1) = true)
    (a2 : PySem.W.nsIn K mainGlobals "is_number" = some (some (.ref f2))) (l2 : K.lookup f2 = some ⟨oc2, od2, .func (PySem.W.fnOf "is_number" "is_number" (defArgs s_is_number) (defBody s_is_number) (defScope s_is_number) .none kV2 dc2 pm2 an2 cd2 ct2), sl2⟩) (c2 : PySem.W.codeIn K cd2 "is_number" = true) (k2 : PySem.W.keepIn K (.ref f2) = true)
    (a3 : PySem.W.nsIn K mainGlobals "_law_draw" = some (some (.ref f3))) (l3 : K.lookup f3 = some ⟨oc3, od3, .func (PySem.W.fnOf "_law_draw" "_law_draw" (defArgs s__law_draw) (defBody s__law_draw) (defScope s__law_draw) .none kV3 dc3 pm3 an3 cd3 ct3), sl3⟩) (c3 : PySem.W.codeIn K cd3 "_law_draw" = true) (k3 : PySem.W.keepIn K (.ref f3) = true)
    (a4 : PySem.W.nsIn K mainGlobals "_law_spread" = some (some (.ref f4))) (l4 : K.lookup f4 = some ⟨oc4, od4, .func (PySem.W.fnOf "_law_spread" "_law_spread" (defArgs s__law_spread) (defBody s__law_spread) (defScope s__law_spread) .none kV4 dc4 pm4 an4 cd4 ct4), sl4⟩) (c4 : PySem.W.codeIn K cd4 "_law_spread" = true) (k4 : PySem.W.keepIn K (.ref f4) = true)
    (a5 : PySem.W.nsIn K mainGlobals "_law_text" = some (some (.ref f5))) (l5 : K.lookup f5 = some ⟨oc5, od5, .func (PySem.W.fnOf "_law_text" "_law_text" (defArgs s__law_text) (defBody s__law_text) (defScope s__law_text) .none kV5 dc5 pm5 an5 cd5 ct5), sl5⟩) (c5 : PySem.W.codeIn K cd5 "_law_text" = true) (k5 : PySem.W.keepIn K (.ref f5) = true)
    (a6 : PySem.W.nsIn K mainGlobals "_law_number" = some (some (.ref f6))) (l6 : K.lookup f6 = some ⟨oc6, od6, .func (PySem.W.fnOf "_law_number" "_law_number" (defArgs s__law_number) (defBody s__law_number) (defScope s__law_number) .none kV6 dc6 pm6 an6 cd6 ct6), sl6⟩) (c6 : PySem.W.codeIn K cd6 "_law_number" = true) (k6 : PySem.W.keepIn K (.ref f6) = true)
    (a7 : PySem.W.nsIn K mainGlobals "law" = some (some (.ref f7))) (l7 : K.lookup f7 = some ⟨oc7, od7, .func (PySem.W.fnOf "law" "law" (defArgs s_law) (defBody s_law) (defScope s_law) .none kV7 dc7 pm7 an7 cd7 ct7), sl7⟩) (c7 : PySem.W.codeIn K cd7 "law" = true) (k7 : PySem.W.keepIn K (.ref f7) = true)
    (z_len : PySem.W.nsIn K mainGlobals "len" = some none)
    (z_str : PySem.W.nsIn K mainGlobals "str" = some none)
    (z_int : PySem.W.nsIn K mainGlobals "int" = some none)
    (z_bool : PySem.W.nsIn K mainGlobals "bool" = some none)
    (z_list : PySem.W.nsIn K mainGlobals "list" = some none)
    (z_dict : PySem.W.nsIn K mainGlobals "dict" = some none)
    (z_tuple : PySem.W.nsIn K mainGlobals "tuple" = some none)
    (z_isinstance : PySem.W.nsIn K mainGlobals "isinstance" = some none)
    (z_all : PySem.W.nsIn K mainGlobals "all" = some none)
    (z_sum : PySem.W.nsIn K mainGlobals "sum" = some none)
    (z_min : PySem.W.nsIn K mainGlobals "min" = some none)
    (z_sorted : PySem.W.nsIn K mainGlobals "sorted" = some none)
    (z_range : PySem.W.nsIn K mainGlobals "range" = some none)
    (z_enumerate : PySem.W.nsIn K mainGlobals "enumerate" = some none)
    (z_reversed : PySem.W.nsIn K mainGlobals "reversed" = some none)
    (z_set : PySem.W.nsIn K mainGlobals "set" = some none)
    (n_LETTERS : PySem.W.nsIn K mainGlobals "LETTERS" = some (some (.str "abcdefghijklmnopqrstuvwxyz" t_LETTERS)))
    (n_MOST_LETTERS : PySem.W.nsIn K mainGlobals "MOST_LETTERS" = some (some (.int 8 t_MOST_LETTERS)))
    (n_MOST_NUMBER : PySem.W.nsIn K mainGlobals "MOST_NUMBER" = some (some (.int 1000000000000000000000000000000000000000000000000000000000000 t_MOST_NUMBER))) :
    ∃ fd : FuncData, (∀ (s : Shared) (v : Value), BindsTo s fd ⟨[v], []⟩ [("_law_script", v)]) ∧ ∀ base : Heap, K.In base → base.Ns mainGlobals mg → FnOk l.prog w K mg base (L2.CX l.prog w) 3 fa fd ["_law_script"] (spLaw K) := by
  have e := hfa.symm.trans (PySem.W.mg_of X G a7)
  cases e
  have T : Bt mg := ⟨PySem.W.mg_none_of X G z_len, PySem.W.mg_none_of X G z_str, PySem.W.mg_none_of X G z_int, PySem.W.mg_none_of X G z_bool, PySem.W.mg_none_of X G z_list, PySem.W.mg_none_of X G z_dict, PySem.W.mg_none_of X G z_tuple, PySem.W.mg_none_of X G z_isinstance, PySem.W.mg_none_of X G z_all, PySem.W.mg_none_of X G z_sum, PySem.W.mg_none_of X G z_min, PySem.W.mg_none_of X G z_sorted, PySem.W.mg_none_of X G z_range, PySem.W.mg_none_of X G z_enumerate, PySem.W.mg_none_of X G z_reversed, PySem.W.mg_none_of X G z_set⟩
  have C : Ct mg := ⟨⟨_, PySem.W.mg_of X G n_LETTERS⟩, ⟨_, PySem.W.mg_of X G n_MOST_LETTERS⟩, ⟨_, PySem.W.mg_of X G n_MOST_NUMBER⟩⟩
  refine ⟨PySem.W.fnOf "law" "law" (defArgs s_law) (defBody s_law) (defScope s_law) .none kV7 dc7 pm7 an7 cd7 ct7, fun s v => .of_eq rfl, fun base _ _ => ?_⟩
  have q_is_name := ok_is_name (P := l.prog) (w := w) (base := base) (at_mk (st := s_is_name) X G a0 l0 c0 k0) T C
  have q_is_whole := ok_is_whole (P := l.prog) (w := w) (base := base) (at_mk (st := s_is_whole) X G a1 l1 c1 k1) T C
  have q_is_number := ok_is_number (P := l.prog) (w := w) (base := base) (at_mk (st := s_is_number) X G a2 l2 c2 k2) T C q_is_whole
  have q__law_draw := ok__law_draw (P := l.prog) (w := w) (base := base) (at_mk (st := s__law_draw) X G a3 l3 c3 k3) T C
  have q__law_spread := ok__law_spread (P := l.prog) (w := w) (base := base) (at_mk (st := s__law_spread) X G a4 l4 c4 k4) T C
  have q__law_text := ok__law_text (P := l.prog) (w := w) (base := base) (at_mk (st := s__law_text) X G a5 l5 c5 k5) T C
  have q__law_number := ok__law_number (P := l.prog) (w := w) (base := base) (at_mk (st := s__law_number) X G a6 l6 c6 k6) T C
  exact (ok_law (P := l.prog) (w := w) (base := base) (fun_mk (st := s_law) l7 c7 k7) T C q__law_spread q__law_text q__law_number q_is_number q_is_name).imp (spLaw_of law_ok)
theorem walk {l : PySem.W.OpenLaw} {q : Program} {loose : List Str} {XP : (Str → Option Value) → Heap → Prop} {YP : World → Heap → Prop} {d : DefRec} {K : Params → PySem.W.Frag} (hn : l.most = some 63) (hdf : d.params.defaults = [])
    (hY : ∀ (w : World) (h : Heap), YP w h → (K w.params).In h)
    (F : ∀ (w : World) (mg : Str → Option Value) (fa : Addr) (h : Heap), (K w.params).In h → h.Ns mainGlobals mg → mg d.name = some (.ref fa) →
      ∃ fd : FuncData, (∀ (s : Shared) (u : Value), BindsTo s fd ⟨[u], []⟩ [("_law_script", u)]) ∧ ∀ base : Heap, (K w.params).In base → base.Ns mainGlobals mg → FnOk l.prog w (K w.params) mg base (L2.CX l.prog w) 3 fa fd ["_law_script"] (spLaw (K w.params))) :
    PySem.W.WalkO q loose XP YP l.row.toRowW d [] (fun f vs => PySem.call f vs) :=
  L2.walk_of (n := 63) (k := 3) (x := "_law_script") (CX := fun w => L2.CX l.prog w) (sp := fun w => spLaw (K w.params)) hn (by decide) hdf ⟨rfl, by decide, by decide⟩ hY F (fun _ _ a ns hl _ hS => ⟨a, ns, rfl, hS, hl, fun _ => rfl⟩) fun _ _ _ _ _ z => cx_end z
end G1
open PySem PySem.W PyProof.Rows in
set_option maxRecDepth 100000 in
set_option maxHeartbeats 0 in
theorem PySem.Challenge.cw_gapyard_k01_names_and_numbers_holds : PySem.Challenge.rw_gapyard_k01_names_and_numbers.Holds := by
  w_on; o_law; k_head; (case hw => w_witness2)
  k_fill
  refine G1.walk (l := PySem.Challenge.rw_gapyard_k01_names_and_numbers) rfl rfl (fun w h Y => PySem.W.kIn_of Y) ?F
  case F =>
    intro w mg fa h KX G hmg
    refine' G1.all_mk KX G hmg ?a0 ?l0 ?c0 ?k0 ?a1 ?l1 ?c1 ?k1 ?a2 ?l2 ?c2 ?k2 ?a3 ?l3 ?c3 ?k3 ?a4 ?l4 ?c4 ?k4 ?a5 ?l5 ?c5 ?k5 ?a6 ?l6 ?c6 ?k6 ?a7 ?l7 ?c7 ?k7 ?z_len ?z_str ?z_int ?z_bool ?z_list ?z_dict ?z_tuple ?z_isinstance ?z_all ?z_sum ?z_min ?z_sorted ?z_range ?z_enumerate ?z_reversed ?z_set ?n_LETTERS ?n_MOST_LETTERS ?n_MOST_NUMBER
    (case a0 => k_is)
    (case l0 => k_is)
    (case c0 => k_is)
    (case k0 => k_is)
    (case a1 => k_is)
    (case l1 => k_is)
    (case c1 => k_is)
    (case k1 => k_is)
    (case a2 => k_is)
    (case l2 => k_is)
    (case c2 => k_is)
    (case k2 => k_is)
    (case a3 => k_is)
    (case l3 => k_is)
    (case c3 => k_is)
    (case k3 => k_is)
    (case a4 => k_is)
    (case l4 => k_is)
    (case c4 => k_is)
    (case k4 => k_is)
    (case a5 => k_is)
    (case l5 => k_is)
    (case c5 => k_is)
    (case k5 => k_is)
    (case a6 => k_is)
    (case l6 => k_is)
    (case c6 => k_is)
    (case k6 => k_is)
    (case a7 => k_is)
    (case l7 => k_is)
    (case c7 => k_is)
    (case k7 => k_is)
    (case z_len => k_is)
    (case z_str => k_is)
    (case z_int => k_is)
    (case z_bool => k_is)
    (case z_list => k_is)
    (case z_dict => k_is)
    (case z_tuple => k_is)
    (case z_isinstance => k_is)
    (case z_all => k_is)
    (case z_sum => k_is)
    (case z_min => k_is)
    (case z_sorted => k_is)
    (case z_range => k_is)
    (case z_enumerate => k_is)
    (case z_reversed => k_is)
    (case z_set => k_is)
    (case n_LETTERS => k_is)
    (case n_MOST_LETTERS => k_is)
    (case n_MOST_NUMBER => k_is)
#print axioms PySem.Challenge.cw_gapyard_k01_names_and_numbers_holds
