import PyProof.Rows.All
import Wide.All
import OpenK.AllK
import Wide.FinOn
import HandS.ForMost
import HandS.ForExc
import HandS.Walk
import HandS.Star
import HandS.IsInst
import HandS.Zip
import HandS.Deep
import HandS.TupAny
import HandS.TupMul
import HandS.ExcSuper
import HandS.Text
import PySem.Challenge.RW_answeredabove_k01_names
set_option Elab.async false
set_option linter.all false
set_option maxRecDepth 100000
/-! data as trees, a small store of things that change, and what a piece of text is worth over them -/
namespace PD
open PySem PySem.Spec PyProof.Rows L2
abbrev Frag := PySem.W.Frag

/-- data: what never changes is a tree; ob n is the n-th thing of the store -/
inductive D where
  | non | bl (b : Bool) | int (i : Int) | str (x : Str) | ty (n : String) | ref (a : Addr)
  | tup (xs : List D) | lst (xs : List D) | fl (xs : List D) | dk (ks : List Key) (vs : List D) | dt (ks : List (List Key)) (vs : List D)
  | ins (C : Addr) (ns : List Str) (vs : List D) | ob (n : Nat)
  deriving Inhabited

/-- things that change -/
inductive MO where
  | ml (xs : List D) | mk (ks : List Key) (vs : List D) | mt (ks : List (List Key)) (vs : List D) | mi (C : Addr) (ns : List Str) (vs : List D)
  deriving Inhabited

inductive Res (α : Type) where
  | ok (a : α) (S : List MO)
  | exc (C : Value) (fs : Option (List Str × List D)) (S : List MO)
  | bad
def M (α : Type) := List MO → Res α
def M.pure {α : Type} (a : α) : M α := fun S => .ok a S
def Res.andThen {α β : Type} (r : Res α) (f : α → M β) : Res β := match r with
  | .ok a S1 => f a S1
  | .exc C fs S1 => .exc C fs S1
  | .bad => .bad
theorem then_ok {α β : Type} (a : α) (S : List MO) (f : α → M β) : (Res.ok a S).andThen f = f a S := (rfl)
theorem then_exc {α β : Type} (C : Value) (fs : Option (List Str × List D)) (S : List MO) (f : α → M β) : (Res.exc C fs S).andThen f = .exc C fs S := (rfl)
theorem then_bad {α β : Type} (f : α → M β) : (Res.bad).andThen f = .bad := (rfl)
def toRes {α : Type} (o : Option α) (S : List MO) : Res α := match o with
  | some a => .ok a S
  | none => .bad
theorem toRes_some {α : Type} (a : α) (S : List MO) : toRes (some a) S = .ok a S := (rfl)
theorem toRes_none {α : Type} (S : List MO) : toRes (none : Option α) S = .bad := (rfl)
def M.bind {α β : Type} (m : M α) (f : α → M β) : M β := fun S => (m S).andThen f
instance : Monad M where
  pure := M.pure
  bind := M.bind
def bad {α : Type} : M α := fun _ => .bad
def lift {α : Type} : Option α → M α
  | some a => pure a
  | none => bad
theorem pure_app {α : Type} (a : α) (S : List MO) : (pure a : M α) S = .ok a S := (rfl)
theorem bind_app {α β : Type} (m : M α) (f : α → M β) (S : List MO) : (m >>= f) S = (m S).andThen f := (rfl)
theorem ite_app {α : Type} {c : Prop} [Decidable c] (m n : M α) (S : List MO) : (if c then m else n) S = if c then m S else n S := by split <;> rfl
theorem lift_app {α : Type} (o : Option α) (S : List MO) : lift o S = toRes o S := by cases o <;> rfl
theorem bad_app {α : Type} (S : List MO) : (bad : M α) S = .bad := (rfl)
theorem pure_bind' {α β : Type} (a : α) (f : α → M β) : (pure a : M α) >>= f = f a := (rfl)
theorem bad_bind {α β : Type} (f : α → M β) : (bad : M α) >>= f = bad := (rfl)
theorem bind_assoc' {α β γ : Type} (m : M α) (f : α → M β) (g : β → M γ) : (m >>= f) >>= g = m >>= fun a => f a >>= g := by
  funext S; simp only [bind_app]; cases m S <;> rfl
theorem bind_pure' {α : Type} (m : M α) : (m >>= fun a => (pure a : M α)) = m := by
  funext S; simp only [bind_app]; cases m S <;> rfl
instance : LawfulMonad M := LawfulMonad.mk' M (fun x => bind_pure' x) (fun _ _ => rfl) (fun x f g => bind_assoc' x f g)
theorem lift_some {α : Type} (a : α) : (lift (some a) : M α) = pure a := (rfl)
theorem lift_none {α : Type} : (lift none : M α) = bad := (rfl)
theorem ite_bind {α β : Type} {c : Prop} [Decidable c] (m n : M α) (f : α → M β) : (if c then m else n) >>= f = if c then m >>= f else n >>= f := by split <;> rfl

/-- a state of the world: where the store's things stand, what is settled, the store, the abstract heap -/
structure Wr where
  ι : Nat → Addr
  B : Hp
  S : List MO
  H : Hp

mutual
inductive Dat (K : Frag) (ι : Nat → Addr) (N : Nat) (B : Hp) : V → D → Prop
  | non : Dat K ι N B .non .non
  | bl (b : Bool) : Dat K ι N B (.bl b) (.bl b)
  | int (i : Int) : Dat K ι N B (.int i) (.int i)
  | str (x : Str) (h : x.length ≤ sizeLine) : Dat K ι N B (.str x) (.str x)
  | ty (n : String) : Dat K ι N B (.ty n) (.ty n)
  | ref (a : Addr) : Dat K ι N B (.ref a) (.ref a)
  | tup {a : Addr} {vs : List V} {ds : List D} : SqT K B a vs → ds.length ≤ sizeLine → Dats K ι N B vs ds → Dat K ι N B (.ref a) (.tup ds)
  | lst {a : Addr} {vs : List V} {ds : List D} : B a = some (.lst vs) → ds.length ≤ sizeLine → Dats K ι N B vs ds → Dat K ι N B (.ref a) (.lst ds)
  | fl {a : Addr} {vs : List V} {ds : List D} : SqL K B a vs → ds.length ≤ sizeLine → Dats K ι N B vs ds → Dat K ι N B (.ref a) (.fl ds)
  | dk {a : Addr} {ks : List Key} {vs : List V} {ds : List D} : B a = some (.dK (ks.zip vs)) → ks.length = vs.length → ds.length ≤ sizeLine → Dats K ι N B vs ds → Dat K ι N B (.ref a) (.dk ks ds)
  | dt {a : Addr} {ks : List (List Key)} {vs : List V} {ds : List D} : B a = some (.dT (ks.zip vs)) → ks.length = vs.length → ds.length ≤ sizeLine → Dats K ι N B vs ds → Dat K ι N B (.ref a) (.dt ks ds)
  | ins {a C dx : Addr} {ns : List Str} {vs : List V} {ds : List D} : B a = some (.ins C dx (ns.zip vs)) → ns.length = vs.length → Dats K ι N B vs ds → Dat K ι N B (.ref a) (.ins C ns ds)
  | ob (n : Nat) (h : n < N) : Dat K ι N B (.ref (ι n)) (.ob n)
inductive Dats (K : Frag) (ι : Nat → Addr) (N : Nat) (B : Hp) : List V → List D → Prop
  | nil : Dats K ι N B [] []
  | cons {v : V} {vs : List V} {d : D} {ds : List D} : Dat K ι N B v d → Dats K ι N B vs ds → Dats K ι N B (v :: vs) (d :: ds)
end
abbrev Dt (K : Frag) (w : Wr) : V → D → Prop := Dat K w.ι w.S.length w.B
abbrev Dts (K : Frag) (w : Wr) : List V → List D → Prop := Dats K w.ι w.S.length w.B

def MOk (K : Frag) (w : Wr) (a : Addr) : MO → Prop
  | .ml ds => ∃ vs, w.H a = some (.lst vs) ∧ Dts K w vs ds
  | .mk ks ds => ∃ vs, w.H a = some (.dK (ks.zip vs)) ∧ ks.length = vs.length ∧ Dts K w vs ds
  | .mt ks ds => ∃ vs, w.H a = some (.dT (ks.zip vs)) ∧ ks.length = vs.length ∧ Dts K w vs ds
  | .mi C ns ds => ∃ dx vs, w.H a = some (.ins C dx (ns.zip vs)) ∧ ns.length = vs.length ∧ Dts K w vs ds
structure Wd (K : Frag) (w : Wr) : Prop where
  fz : ∀ a o, w.B a = some o → w.H a = some o
  sp : ∀ n, n < w.S.length → w.B (w.ι n) = none
  ob : ∀ n o, w.S[n]? = some o → MOk K w (w.ι n) o
  inj : ∀ n m, n < w.S.length → m < w.S.length → w.ι n = w.ι m → n = m
/-- what lies between two states -/
structure Ex (w w' : Wr) : Prop where
  le : w.S.length ≤ w'.S.length
  io : ∀ n, n < w.S.length → w'.ι n = w.ι n
  fz : ∀ a o, w.B a = some o → w'.B a = some o
  nw : ∀ a o, w'.B a = some o → w.B a = some o ∨ w.H a = none
  ni : ∀ n, w.S.length ≤ n → n < w'.S.length → w.H (w'.ι n) = none
  kp : ∀ a o, w.H a = some o → (∀ n, n < w.S.length → a ≠ w.ι n) → w'.H a = some o
section
variable {K : Frag} {ι ι' : Nat → Addr} {N N' : Nat} {B B' : Hp} {w w' w'' : Wr}

theorem SqT.same {H H' : Hp} {a : Addr} {xs : List V} (e : ∀ b o, H b = some o → H' b = some o) (h : SqT K H a xs) : SqT K H' a xs := by
  rcases h with (h | ⟨o, h⟩) | h
  · exact .inl (.inl (e _ _ h))
  · exact .inl (.inr ⟨o, e _ _ h⟩)
  · exact .inr h
theorem SqL.same {H H' : Hp} {a : Addr} {xs : List V} (e : ∀ b o, H b = some o → H' b = some o) (h : SqL K H a xs) : SqL K H' a xs := by
  rcases h with (h | ⟨o, h⟩) | h
  · exact .inl (.inl (e _ _ h))
  · exact .inl (.inr ⟨o, e _ _ h⟩)
  · exact .inr h
theorem Rd.same {H H' : Hp} {a : Addr} {u : HO} (e : ∀ b o, H b = some o → H' b = some o) (h : Rd H a u) : Rd H' a u := by
  rcases h with h | ⟨o, h⟩
  · exact .inl (e _ _ h)
  · exact .inr ⟨o, e _ _ h⟩
mutual
theorem Dat.mono (hN : N ≤ N') (hi : ∀ n, n < N → ι' n = ι n) (hB : ∀ a o, B a = some o → B' a = some o) : ∀ {v : V} {d : D}, Dat K ι N B v d → Dat K ι' N' B' v d
  | _, _, .non => .non
  | _, _, .bl b => .bl b
  | _, _, .int i => .int i
  | _, _, .str x h => .str x h
  | _, _, .ty n => .ty n
  | _, _, .ref a => .ref a
  | _, _, .tup q l t => .tup (SqT.same hB q) l (Dats.mono hN hi hB t)
  | _, _, .lst q l t => .lst (hB _ _ q) l (Dats.mono hN hi hB t)
  | _, _, .fl q l t => .fl (SqL.same hB q) l (Dats.mono hN hi hB t)
  | _, _, .dk q l z t => .dk (hB _ _ q) l z (Dats.mono hN hi hB t)
  | _, _, .dt q l z t => .dt (hB _ _ q) l z (Dats.mono hN hi hB t)
  | _, _, .ins q l t => .ins (hB _ _ q) l (Dats.mono hN hi hB t)
  | _, _, .ob n h => by rw [← hi n h]; exact .ob n (Nat.lt_of_lt_of_le h hN)
theorem Dats.mono (hN : N ≤ N') (hi : ∀ n, n < N → ι' n = ι n) (hB : ∀ a o, B a = some o → B' a = some o) : ∀ {vs : List V} {ds : List D}, Dats K ι N B vs ds → Dats K ι' N' B' vs ds
  | _, _, .nil => .nil
  | _, _, .cons h t => .cons (Dat.mono hN hi hB h) (Dats.mono hN hi hB t)
end
theorem Dats.length : ∀ {vs : List V} {ds : List D}, Dats K ι N B vs ds → vs.length = ds.length
  | _, _, .nil => rfl
  | _, _, .cons _ t => congrArg (· + 1) (Dats.length t)
theorem Dats.get : ∀ {vs : List V} {ds : List D} {i : Nat} {d : D}, Dats K ι N B vs ds → ds[i]? = some d → ∃ v, vs[i]? = some v ∧ Dat K ι N B v d
  | _, _, _, _, .nil, e => by simp at e
  | _, _, 0, _, .cons h _, e => by simp at e; subst e; exact ⟨_, rfl, h⟩
  | _, _, i + 1, _, .cons _ t, e => by
    obtain ⟨v, h1, h2⟩ := Dats.get t (i := i) (by simpa using e)
    exact ⟨v, by simpa using h1, h2⟩
theorem Dats.getV : ∀ {vs : List V} {ds : List D} {i : Nat} {v : V}, Dats K ι N B vs ds → vs[i]? = some v → ∃ d, ds[i]? = some d ∧ Dat K ι N B v d
  | _, _, _, _, .nil, e => by simp at e
  | _, _, 0, _, .cons h _, e => by simp at e; subst e; exact ⟨_, rfl, h⟩
  | _, _, i + 1, _, .cons _ t, e => by
    obtain ⟨v, h1, h2⟩ := Dats.getV t (i := i) (by simpa using e)
    exact ⟨v, by simpa using h1, h2⟩
theorem Dats.append : ∀ {vs us : List V} {ds es : List D}, Dats K ι N B vs ds → Dats K ι N B us es → Dats K ι N B (vs ++ us) (ds ++ es)
  | _, _, _, _, .nil, s => s
  | _, _, _, _, .cons h t, s => .cons h (Dats.append t s)
theorem Dats.take : ∀ {vs : List V} {ds : List D} (n : Nat), Dats K ι N B vs ds → Dats K ι N B (vs.take n) (ds.take n)
  | _, _, 0, _ => .nil
  | _, _, _ + 1, .nil => .nil
  | _, _, n + 1, .cons h t => .cons h (Dats.take n t)
theorem Dats.drop : ∀ {vs : List V} {ds : List D} (n : Nat), Dats K ι N B vs ds → Dats K ι N B (vs.drop n) (ds.drop n)
  | _, _, 0, h => h
  | _, _, _ + 1, .nil => .nil
  | _, _, n + 1, .cons _ t => Dats.drop n t
theorem Dats.set {v : V} {d : D} (h : Dat K ι N B v d) : ∀ {vs : List V} {ds : List D} (i : Nat), Dats K ι N B vs ds → Dats K ι N B (vs.set i v) (ds.set i d)
  | _, _, _, .nil => .nil
  | _, _, 0, .cons _ t => .cons h t
  | _, _, i + 1, .cons q t => .cons q (Dats.set h i t)
theorem Dats.eraseIdx : ∀ {vs : List V} {ds : List D} (i : Nat), Dats K ι N B vs ds → Dats K ι N B (vs.eraseIdx i) (ds.eraseIdx i)
  | _, _, _, .nil => .nil
  | _, _, 0, .cons _ t => t
  | _, _, i + 1, .cons q t => .cons q (Dats.eraseIdx i t)
theorem Dats.reverse : ∀ {vs : List V} {ds : List D}, Dats K ι N B vs ds → Dats K ι N B vs.reverse ds.reverse
  | _, _, .nil => .nil
  | _, _, .cons h t => by rw [List.reverse_cons, List.reverse_cons]; exact (Dats.reverse t).append (.cons h .nil)

theorem Ex.refl (w : Wr) : Ex w w := ⟨Nat.le_refl _, fun _ _ => rfl, fun _ _ h => h, fun _ _ h => .inl h, fun _ h1 h2 => absurd h2 (Nat.not_lt.mpr h1), fun _ _ h _ => h⟩
theorem MOk.there {a : Addr} {o : MO} (h : MOk K w a o) : ∃ u, w.H a = some u := by
  cases o with
  | ml _ => obtain ⟨_, e, _⟩ := h; exact ⟨_, e⟩
  | mk _ _ => obtain ⟨_, e, _⟩ := h; exact ⟨_, e⟩
  | mt _ _ => obtain ⟨_, e, _⟩ := h; exact ⟨_, e⟩
  | mi _ _ _ => obtain ⟨_, _, e, _⟩ := h; exact ⟨_, e⟩
theorem Wd.there (h : Wd K w) {n : Nat} (hn : n < w.S.length) : ∃ u, w.H (w.ι n) = some u :=
  (h.ob n w.S[n] (List.getElem?_eq_getElem hn)).there
theorem Ex.trans (d : Wd K w') (a : Ex w w') (b : Ex w' w'') : Ex w w'' := by
  have old : ∀ x o, w.H x = some o → (∀ n, n < w.S.length → x ≠ w.ι n) → ∀ n, n < w'.S.length → x ≠ w'.ι n := fun x o h hn n hl z => by
    by_cases hc : n < w.S.length
    · rw [a.io n hc] at z; exact hn n hc z
    · have := a.ni n (Nat.not_lt.mp hc) hl
      rw [← z, h] at this; cases this
  -- an address that is none in w' is none in w, unless it is the store's
  refine ⟨Nat.le_trans a.le b.le, fun n h => (b.io n (Nat.lt_of_lt_of_le h a.le)).trans (a.io n h), fun x o h => b.fz x o (a.fz x o h), fun x o h => ?_, fun n h1 h2 => ?_, fun x o h hn => b.kp x o (a.kp x o h hn) (old x o h hn)⟩
  · rcases b.nw x o h with q | q
    · exact a.nw x o q
    · cases e : w.H x with
      | none => exact .inr rfl
      | some u =>
        by_cases hn : ∀ n, n < w.S.length → x ≠ w.ι n
        · rw [a.kp x u e hn] at q; cases q
        · have ⟨n, hl, z⟩ : ∃ n, n < w.S.length ∧ x = w.ι n := by
            apply Classical.byContradiction
            intro hh
            exact hn fun n hl z => hh ⟨n, hl, z⟩
          obtain ⟨u', e'⟩ := d.there (Nat.lt_of_lt_of_le hl a.le)
          rw [a.io n hl, ← z, q] at e'; cases e'
  · by_cases hc : n < w'.S.length
    · rw [b.io n hc]; exact a.ni n h1 hc
    · have q := b.ni n (Nat.not_lt.mp hc) h2
      cases e : w.H (w''.ι n) with
      | none => rfl
      | some u =>
        by_cases hn : ∀ m, m < w.S.length → w''.ι n ≠ w.ι m
        · rw [a.kp _ u e hn] at q; cases q
        · have ⟨m, hl, z⟩ : ∃ m, m < w.S.length ∧ w''.ι n = w.ι m := by
            apply Classical.byContradiction
            intro hh
            exact hn fun m hl z => hh ⟨m, hl, z⟩
          obtain ⟨u', e'⟩ := d.there (Nat.lt_of_lt_of_le hl a.le)
          rw [a.io m hl, ← z, q] at e'; cases e'
theorem Dt.ex (e : Ex w w') {v : V} {d : D} (h : Dt K w v d) : Dt K w' v d := Dat.mono e.le e.io e.fz h
theorem Dts.ex (e : Ex w w') {vs : List V} {ds : List D} (h : Dts K w vs ds) : Dts K w' vs ds := Dats.mono e.le e.io e.fz h
end

/-- the slots of a frame -/
abbrev Rho := List (Option D)
structure Lo (K : Frag) (w : Wr) (σ : L2.St) (ρ : Rho) : Prop where
  len : σ.length = ρ.length
  sl : ∀ (i : Nat) (d : D), ρ[i]? = some (some d) → ∃ v, σ[i]? = some (some v) ∧ Dt K w v d
theorem Lo.ex {K : Frag} {w w' : Wr} {σ : L2.St} {ρ : Rho} (l : Lo K w σ ρ) (e : Ex w w') : Lo K w' σ ρ :=
  ⟨l.len, fun i d h => let ⟨v, a, b⟩ := l.sl i d h; ⟨v, a, Dt.ex e b⟩⟩
theorem Lo.set {K : Frag} {w : Wr} {σ : L2.St} {ρ : Rho} {i : Nat} {v : V} {d : D} (l : Lo K w σ ρ) (h : Dt K w v d) : Lo K w (σ.set i (some v)) (ρ.set i (some d)) := by
  refine ⟨by simp [l.len], fun j e q => ?_⟩
  by_cases hj : i = j
  · subst hj
    by_cases hl : i < ρ.length
    · rw [List.getElem?_set_self hl] at q
      cases q
      exact ⟨v, List.getElem?_set_self (by rw [l.len]; exact hl), h⟩
    · rw [List.getElem?_eq_none (by simpa using Nat.not_lt.mp hl)] at q; cases q
  · rw [List.getElem?_set_ne hj] at q
    obtain ⟨u, a, b⟩ := l.sl j e q
    exact ⟨u, by rw [List.getElem?_set_ne hj]; exact a, b⟩

/-- an exception's own dict -/
def XDt (K : Frag) (w : Wr) (dd : Option Addr) : Option (List Str × List D) → Prop
  | none => dd = none
  | some (ns, ds) => ∃ a vs, dd = some a ∧ w.H a = some (.xd (ns.zip vs)) ∧ ns.length = vs.length ∧ Dts K w vs ds
/-- what is wanted behind: k of the result and the state -/
def Pst {α : Type} (K : Frag) (W : XK) (w : Wr) (r : Res α) (k : α → Wr → Prop) : Prop :=
  match r with
  | .ok a S' => ∀ w', w'.S = S' → Ex w w' → Wd K w' → k a w'
  | .exc C fs S' => ∀ w' dd, w'.S = S' → Ex w w' → Wd K w' → XDt K w' dd fs → W C dd w'.H
  | .bad => False
section
variable {K : Frag} {W : XK} {w w' : Wr} {α β : Type}
theorem Pst.ok {a : α} {k : α → Wr → Prop} (h : ∀ w', w'.S = w.S → Ex w w' → Wd K w' → k a w') : Pst K W w ((pure a : M α) w.S) k := h
theorem Pst.here {a : α} {S : List MO} {k : α → Wr → Prop} (d : Wd K w) (h : Pst K W w (.ok a S) k) (hS : w.S = S) : k a w := h w hS (Ex.refl w) d
theorem Pst.mono {r : Res α} {k k' : α → Wr → Prop} (h : Pst K W w r k) (hk : ∀ a w', Ex w w' → Wd K w' → k a w' → k' a w') : Pst K W w r k' := by
  cases r with
  | ok a S => exact fun w' e x d => hk a w' x d (h w' e x d)
  | exc C fs S => exact h
  | bad => exact h
/-- from a later state -/
theorem Pst.ex {r : Res α} {k : α → Wr → Prop} (d : Wd K w') (e : Ex w w') (h : Pst K W w r k) : Pst K W w' r k := by
  cases r with
  | ok a S => exact fun w2 e2 x2 d2 => h w2 e2 (e.trans d x2) d2
  | exc C fs S => exact fun w2 dd e2 x2 d2 => h w2 dd e2 (e.trans d x2) d2
  | bad => exact h
theorem Pst.bind {m : M α} {f : α → M β} {k : β → Wr → Prop} (h : Pst K W w ((m >>= f) w.S) k) : Pst K W w (m w.S) fun a w' => Pst K W w' (f a w'.S) k := by
  rw [bind_app] at h
  cases e : m w.S with
  | ok a S =>
    rw [e] at h
    intro w' e' x d
    rw [e']
    exact Pst.ex d x h
  | exc C fs S =>
    rw [e] at h
    exact h
  | bad =>
    rw [e] at h
    exact h
theorem Pst.lift {o : Option α} {f : α → M β} {k : β → Wr → Prop} (h : Pst K W w ((PD.lift o >>= f) w.S) k) : ∃ a, o = some a ∧ Pst K W w (f a w.S) k := by
  cases o with
  | none => exact h.elim
  | some a => exact ⟨a, rfl, h⟩
theorem Pst.lift1 {o : Option α} {k : α → Wr → Prop} (h : Pst K W w (PD.lift o w.S) k) : ∃ a, o = some a ∧ ∀ w', w'.S = w.S → Ex w w' → Wd K w' → k a w' := by
  cases o with
  | none => exact h.elim
  | some a => exact ⟨a, rfl, h⟩
end

/-! ### readings -/
section
def kE (K : Frag) (Q : VK) : D → Wr → Prop := fun d w => ∀ v, Dt K w v d → Q v w.H
def kA (K : Frag) (Q : List V → Hp → Prop) : List D → Wr → Prop := fun ds w => ∀ vs, Dts K w vs ds → Q vs w.H
def kT (Q : Bool → Hp → Prop) : Bool → Wr → Prop := fun b w => Q b w.H
/-- a state and slots at which a piece begins -/
def At (K : Frag) (w : Wr) (σ : L2.St) (ρ : Rho) (H : Hp) : Prop := w.H = H ∧ Wd K w ∧ Lo K w σ ρ
def tE (K : Frag) (W : WX) (m : Rho → M D) : TE := fun σ H Q => ∃ w ρ, At K w σ ρ H ∧ Pst K (WE W σ) w (m ρ w.S) (kE K Q)
def tT (K : Frag) (W : WX) (m : Rho → M Bool) : TT := fun σ H Q => ∃ w ρ, At K w σ ρ H ∧ Pst K (WE W σ) w (m ρ w.S) (kT Q)
def tA (K : Frag) (W : WX) (m : Rho → M (List D)) : TA := fun σ H Q => ∃ w ρ, At K w σ ρ H ∧ Pst K (WE W σ) w (m ρ w.S) (kA K Q)
end
/-- e is worth m -/
def PDE (X : Cx) (W : WX) (e : Expr) (m : Rho → M D) : Prop := PE X e (tE X.K W m)
def PDT (X : Cx) (W : WX) (e : Expr) (m : Rho → M Bool) : Prop := PT X e (tT X.K W m)
def PDW (X : Cx) (W : WX) (e : Expr) (m : Rho → M Bool) : Prop := PW X e (tT X.K W m)
def PDA (X : Cx) (W : WX) (es : List Expr) (m : Rho → M (List D)) : Prop := PA X es (tA X.K W m)

theorem PE.imp {X : Cx} {e : Expr} {t t' : TE} (h : PE X e t) (i : ∀ σ H Q, t' σ H Q → t σ H Q) : PE X e t' := ⟨fun pins s σ H Q I q => h.run pins s σ H Q I (i _ _ _ q)⟩
theorem PT.imp {X : Cx} {e : Expr} {t t' : TT} (h : PT X e t) (i : ∀ σ H Q, t' σ H Q → t σ H Q) : PT X e t' := ⟨fun pins s σ H Q I q => h.run pins s σ H Q I (i _ _ _ q)⟩
theorem PW.imp {X : Cx} {e : Expr} {t t' : TT} (h : PW X e t) (i : ∀ σ H Q, t' σ H Q → t σ H Q) : PW X e t' := ⟨fun wh pins s σ H Q I q => h.run wh pins s σ H Q I (i _ _ _ q)⟩
theorem PA.imp {X : Cx} {es : List Expr} {t t' : TA} (h : PA X es t) (i : ∀ σ H Q, t' σ H Q → t σ H Q) : PA X es t' := ⟨fun pos pins s σ H Q I q => h.run pos pins s σ H Q I (i _ _ _ q)⟩
theorem PS.imp {X : Cx} {st : Stmt} {t t' : TS} (h : PS X st t) (i : ∀ D σ H, t' D σ H → t D σ H) : PS X st t' := ⟨fun pins s σ H D I q => h.run pins s σ H D I (i _ _ _ q)⟩
theorem PSs.imp {X : Cx} {st : List Stmt} {t t' : TS} (h : PSs X st t) (i : ∀ D σ H, t' D σ H → t D σ H) : PSs X st t' := ⟨fun pins s σ H D I q => h.run pins s σ H D I (i _ _ _ q)⟩
theorem OpR.imp {X : Cx} {f : Value → Value → Sem Value} {r r' : R2} (h : OpR X f r) (i : ∀ x y H Q, r' x y H Q → r x y H Q) : OpR X f r' := fun pins s σ H x y v u Q I rx ry q => h pins s σ H x y v u Q I rx ry (i _ _ _ _ q)
theorem CallR.imp {X : Cx} {f : Value} {r r' : List V → Hp → VK → Prop} (h : CallR X f r) (i : ∀ xs H Q, r' xs H Q → r xs H Q) : CallR X f r' := fun pins s σ H vs us Q I rv q => h pins s σ H vs us Q I rv (i _ _ _ q)

/-- one after another -/
theorem tE_bind {K : Frag} {W : WX} {m : Rho → M D} {α : Type} {f : Rho → D → M α} {σ : L2.St} {H : Hp} {w : Wr} {ρ : Rho} {k : α → Wr → Prop} (a : At K w σ ρ H) (h : Pst K (WE W σ) w ((m ρ >>= f ρ) w.S) k)
    {Q : VK} (q : ∀ d v w', Ex w w' → At K w' σ ρ w'.H → Dt K w' v d → Pst K (WE W σ) w' (f ρ d w'.S) k → Q v w'.H) : tE K W m σ H Q :=
  ⟨w, ρ, a, (Pst.bind h).mono fun d w' e x hp v hv => q d v w' e ⟨rfl, x, a.2.2.ex e⟩ hv hp⟩
theorem tA_bind {K : Frag} {W : WX} {m : Rho → M (List D)} {α : Type} {f : Rho → List D → M α} {σ : L2.St} {H : Hp} {w : Wr} {ρ : Rho} {k : α → Wr → Prop} (a : At K w σ ρ H) (h : Pst K (WE W σ) w ((m ρ >>= f ρ) w.S) k)
    {Q : List V → Hp → Prop} (q : ∀ ds vs w', Ex w w' → At K w' σ ρ w'.H → Dts K w' vs ds → Pst K (WE W σ) w' (f ρ ds w'.S) k → Q vs w'.H) : tA K W m σ H Q :=
  ⟨w, ρ, a, (Pst.bind h).mono fun d w' e x hp v hv => q d v w' e ⟨rfl, x, a.2.2.ex e⟩ hv hp⟩
theorem tT_bind {K : Frag} {W : WX} {m : Rho → M Bool} {α : Type} {f : Rho → Bool → M α} {σ : L2.St} {H : Hp} {w : Wr} {ρ : Rho} {k : α → Wr → Prop} (a : At K w σ ρ H) (h : Pst K (WE W σ) w ((m ρ >>= f ρ) w.S) k)
    {Q : Bool → Hp → Prop} (q : ∀ b w', Ex w w' → At K w' σ ρ w'.H → Pst K (WE W σ) w' (f ρ b w'.S) k → Q b w'.H) : tT K W m σ H Q :=
  ⟨w, ρ, a, (Pst.bind h).mono fun d w' e x hp => q d w' e ⟨rfl, x, a.2.2.ex e⟩ hp⟩

/-! ### a new settled object -/
theorem Wd.settle {K : Frag} {w : Wr} {p : Addr} {o : HO} (d : Wd K w) (hp : w.H p = none) : Wd K { w with B := upd w.B p o, H := upd w.H p o } ∧ Ex w { w with B := upd w.B p o, H := upd w.H p o } := by
  have nB : w.B p = none := by
    cases e : w.B p with
    | none => rfl
    | some u => rw [d.fz _ _ e] at hp; cases hp
  have np : ∀ n, n < w.S.length → w.ι n ≠ p := fun n hn z => by
    obtain ⟨u, e⟩ := d.there hn
    rw [z, hp] at e; cases e
  have ex : Ex w { w with B := upd w.B p o, H := upd w.H p o } := ⟨Nat.le_refl _, fun _ _ => rfl, fun a u h => by
      show upd w.B p o a = some u
      rw [upd_ne (fun z => by rw [z, nB] at h; cases h)]; exact h, fun a u h => by
      by_cases z : a = p
      · subst z; exact .inr hp
      · have h : upd w.B p o a = some u := h
        rw [upd_ne z] at h; exact .inl h, fun n h1 h2 => absurd h2 (Nat.not_lt.mpr h1), fun a u h _ => by
      show upd w.H p o a = some u
      rw [upd_ne (fun z => by rw [z, hp] at h; cases h)]; exact h⟩
  refine ⟨⟨fun a u h => ?_, fun n hn => ?_, fun n u h => ?_, d.inj⟩, ex⟩
  · show upd w.H p o a = some u
    by_cases z : a = p
    · subst z
      have h : upd w.B a o a = some u := h
      rw [upd_same] at h ⊢; exact h
    · have h : upd w.B p o a = some u := h
      rw [upd_ne z] at h ⊢; exact d.fz a u h
  · show upd w.B p o (w.ι n) = none
    rw [upd_ne (np n hn)]; exact d.sp n hn
  · have hn : n < w.S.length := (List.getElem?_eq_some_iff.mp h).1
    have q := d.ob n u h
    have eH : upd w.H p o (w.ι n) = w.H (w.ι n) := upd_ne (np n hn)
    have mv : ∀ {vs : List V} {ds : List D}, Dts K w vs ds → Dts K { w with B := upd w.B p o, H := upd w.H p o } vs ds := fun t => Dts.ex ex t
    cases u with
    | ml ds => obtain ⟨vs, e, t⟩ := q; exact ⟨vs, eH.trans e, mv t⟩
    | mk ks ds => obtain ⟨vs, e, l, t⟩ := q; exact ⟨vs, eH.trans e, l, mv t⟩
    | mt ks ds => obtain ⟨vs, e, l, t⟩ := q; exact ⟨vs, eH.trans e, l, mv t⟩
    | mi C ns ds => obtain ⟨dx, vs, e, l, t⟩ := q; exact ⟨dx, vs, eH.trans e, l, mv t⟩
/-- a new tuple, a new list -/
theorem new_tup {K : Frag} {w : Wr} {p : Addr} {vs : List V} {ds : List D} (d : Wd K w) (hp : w.H p = none) (t : Dts K w vs ds) (hl : ds.length ≤ sizeLine) :
    ∃ w', w'.S = w.S ∧ w'.H = upd w.H p (.tup vs) ∧ Ex w w' ∧ Wd K w' ∧ Dt K w' (.ref p) (.tup ds) :=
  let z := d.settle (o := .tup vs) hp
  ⟨{ w with B := upd w.B p (.tup vs), H := upd w.H p (.tup vs) }, rfl, rfl, z.2, z.1, .tup (SqT.of (by show upd w.B p _ p = _; exact upd_same)) hl (Dts.ex z.2 t)⟩
theorem new_lst {K : Frag} {w : Wr} {p : Addr} {vs : List V} {ds : List D} (d : Wd K w) (hp : w.H p = none) (t : Dts K w vs ds) (hl : ds.length ≤ sizeLine) :
    ∃ w', w'.S = w.S ∧ w'.H = upd w.H p (.lst vs) ∧ Ex w w' ∧ Wd K w' ∧ Dt K w' (.ref p) (.lst ds) :=
  let z := d.settle (o := .lst vs) hp
  ⟨{ w with B := upd w.B p (.lst vs), H := upd w.H p (.lst vs) }, rfl, rfl, z.2, z.1, .lst (by show upd w.B p _ p = _; exact upd_same) hl (Dts.ex z.2 t)⟩
end PD

set_option Elab.async false
set_option linter.all false
set_option maxRecDepth 100000
namespace PD
open PySem PySem.Spec PyProof.Rows L2

/-! ### names and constants -/
def slot (ρ : Rho) (i : Nat) : Option D := (ρ[i]?).getD none
theorem slot_zero (x : Option D) (ρ : Rho) : slot (x :: ρ) 0 = x := (rfl)
theorem slot_succ (x : Option D) (ρ : Rho) (i : Nat) : slot (x :: ρ) (i + 1) = slot ρ i := (rfl)
theorem slot_some {ρ : Rho} {i : Nat} {d : D} (h : slot ρ i = some d) : ρ[i]? = some (some d) := by
  unfold slot at h
  cases e : ρ[i]? with
  | none => rw [e] at h; cases h
  | some x => rw [e] at h; cases h; rfl
section
variable {X : Cx} {W : WX} {pos : Pos}
theorem pd_var (i : Nat) {x : Str} {pos : Pos} (hN : X.N[i]? = some x := by rfl) (hv : Vis X.env.scope x := by first | exact Or.inl rfl | exact Or.inr (Or.inl rfl) | exact Or.inr (Or.inr rfl)) (hd : (x == ("__debug__" : Str)) = false := by decide)
    (hcd : (x == ("__classdict__" : Str)) = false := by decide) : PDE X W (.Name x pos) (fun ρ => lift (slot ρ i)) := by
  refine PE.imp (pe_var hN hv hd hcd) fun σ H Q ⟨w, ρ, a, h⟩ => ?_
  obtain ⟨d, e, h⟩ := Pst.lift1 h
  obtain ⟨v, e2, r⟩ := a.2.2.sl i d (slot_some e)
  have := h w rfl (Ex.refl w) a.2.1 v r
  rw [a.1] at this
  exact ⟨v, e2, this⟩
/-- a constant -/
theorem pd_const {e : Expr} {v : V} {d : D} (h : PE X e (tC v)) (r : ∀ w : Wr, Dt X.K w v d) : PDE X W e (fun _ => pure d) :=
  PE.imp h fun σ H Q ⟨w, ρ, a, q⟩ => by
    have := q w rfl (Ex.refl w) a.2.1 v (r w)
    rw [a.1] at this
    exact this
theorem pd_int {i : Int} {j pos} : PDE X W (.Constant (.int i) j pos) (fun _ => pure (.int i)) := pd_const pe_int fun _ => .int i
theorem pd_bl {b : Bool} {j pos} : PDE X W (.Constant (.bool b) j pos) (fun _ => pure (.bl b)) := pd_const pe_bl fun _ => .bl b
theorem pd_non {j pos} : PDE X W (.Constant .none j pos) (fun _ => pure .non) := pd_const pe_non fun _ => .non
theorem pd_str {x : Str} {j pos} (h : x.length ≤ sizeLine := by decide) : PDE X W (.Constant (.str x) j pos) (fun _ => pure (.str x)) := pd_const pe_str fun _ => .str x h
theorem pd_globI {x : Str} {i : Int} {t : Tok} {pos : Pos} (hg : Gl X x) (hm : X.mg x = some (.int i t)) (hd : (x == ("__debug__" : Str)) = false := by decide) : PDE X W (.Name x pos) (fun _ => pure (.int i)) :=
  pd_const (pe_glob hg hm (v := .int i) ⟨t, rfl⟩ hd) fun _ => .int i
theorem pd_globS {x z : Str} {t : Tok} {pos : Pos} (hg : Gl X x) (hm : X.mg x = some (.str z t)) (hl : z.length ≤ sizeLine := by decide) (hd : (x == ("__debug__" : Str)) = false := by decide) : PDE X W (.Name x pos) (fun _ => pure (.str z)) :=
  pd_const (pe_glob hg hm (v := .str z) ⟨t, rfl⟩ hd) fun _ => .str z hl
theorem pd_globR {x : Str} {a : Addr} {pos : Pos} (hg : Gl X x) (hm : X.mg x = some (.ref a)) (hd : (x == ("__debug__" : Str)) = false := by decide) : PDE X W (.Name x pos) (fun _ => pure (.ref a)) :=
  pd_const (pe_glob hg hm (v := .ref a) rfl hd) fun _ => .ref a
/-- a built-in class as a value -/
theorem pd_ty {x : Str} {T : String} {pos : Pos} (hg : Gl X x) (hm : X.mg x = none) (hv : bootBuiltins x = some (.type T)) (hn : x ≠ "__name__" := by decide) (hd : (x == ("__debug__" : Str)) = false := by decide) : PDE X W (.Name x pos) (fun _ => pure (.ty T)) :=
  pd_const (pe_bltn hg hm hv (v := .ty T) rfl hn hd) fun _ => .ty T
end

/-! ### operators by values -/
def opd (g : List MO → D → D → Option D) (x y : D) : M D := fun S => toRes (g S x y) S
def opd1 (g : List MO → D → Option D) (x : D) : M D := fun S => toRes (g S x) S
def opM (K : Frag) (g : List MO → D → D → Option D) : R2 := fun x y H Q => ∃ w dx dy d, w.H = H ∧ Wd K w ∧ Dt K w x dx ∧ Dt K w y dy ∧ g w.S dx dy = some d ∧
  ∀ w' v, w'.S = w.S → Ex w w' → Wd K w' → Dt K w' v d → Q v w'.H
theorem Pst.opd {K : Frag} {W : XK} {w : Wr} {g : List MO → D → D → Option D} {x y : D} {k : D → Wr → Prop} (h : Pst K W w (opd g x y w.S) k) : ∃ d, g w.S x y = some d ∧ ∀ w', w'.S = w.S → Ex w w' → Wd K w' → k d w' := by
  unfold PD.opd at h
  cases e : g w.S x y with
  | none => rw [e] at h; exact h.elim
  | some d => rw [e] at h; exact ⟨d, rfl, h⟩
theorem Pst.opd1 {K : Frag} {W : XK} {w : Wr} {g : List MO → D → Option D} {x : D} {k : D → Wr → Prop} (h : Pst K W w (opd1 g x w.S) k) : ∃ d, g w.S x = some d ∧ ∀ w', w'.S = w.S → Ex w w' → Wd K w' → k d w' := by
  unfold PD.opd1 at h
  cases e : g w.S x with
  | none => rw [e] at h; exact h.elim
  | some d => rw [e] at h; exact ⟨d, rfl, h⟩
def do2 (ma mb : Rho → M D) (g : List MO → D → D → Option D) : Rho → M D := fun ρ => ma ρ >>= fun x => mb ρ >>= fun y => opd g x y
theorem tOp_of {K : Frag} {W : WX} {ma mb : Rho → M D} {g : List MO → D → D → Option D} {σ : L2.St} {H : Hp} {Q : VK} (h : tE K W (do2 ma mb g) σ H Q) : tOp (opM K g) (tE K W ma) (tE K W mb) σ H Q := by
  obtain ⟨w, ρ, a, h⟩ := h
  refine tE_bind (f := fun ρ x => mb ρ >>= fun y => opd g x y) a h fun dx vx w1 e1 a1 hx h1 => tE_bind (f := fun ρ y => opd g dx y) a1 h1 fun dy vy w2 e2 a2 hy h2 => ?_
  obtain ⟨d, e, q⟩ := Pst.opd h2
  exact ⟨w2, dx, dy, d, rfl, a2.2.1, Dt.ex e2 hx, hy, e, fun w' v hS x d' hv => q w' hS x d' v hv⟩
section
variable {X : Cx} {W : WX} {a b : Expr} {ma mb : Rho → M D} {pos : Pos}
theorem pd_op {op : Operator} {g : List MO → D → D → Option D} (ho : OpR X (binaryOp op) (opM X.K g)) (ha : PDE X W a ma) (hb : PDE X W b mb) : PDE X W (.BinOp a op b pos) (do2 ma mb g) :=
  PE.imp (pe_op ho ha hb) fun _ _ _ h => tOp_of h
theorem pd_cmp {op : CmpOp} {g : List MO → D → D → Option D} (ho : OpR X (compareOp op) (opM X.K g)) (ha : PDE X W a ma) (hb : PDE X W b mb) (hm : behindInMarks op b = false) : PDE X W (.Compare a [op] [b] pos) (do2 ma mb g) :=
  PE.imp (pe_cmpR ho ha hb hm) fun _ _ _ h => tOp_of h
end

/-! ### tests -/
def isB : D → M Bool
  | .bl b => pure b
  | _ => bad
def asT (m : Rho → M D) : Rho → M Bool := fun ρ => m ρ >>= isB
theorem Pst.isB {K : Frag} {W : XK} {w : Wr} {x : D} {k : Bool → Wr → Prop} (h : Pst K W w (PD.isB x w.S) k) : ∃ b, x = .bl b ∧ Pst K W w ((pure b : M Bool) w.S) k := by
  cases x with
  | bl b => exact ⟨b, rfl, h⟩
  | _ => exact h.elim
theorem Dat.bl_of {K : Frag} {ι : Nat → Addr} {N : Nat} {B : Hp} {v : V} {b : Bool} (h : Dat K ι N B v (.bl b)) : v = .bl b := by cases h; rfl
theorem tTest_of {K : Frag} {W : WX} {m : Rho → M D} {σ : L2.St} {H : Hp} {Q : Bool → Hp → Prop} (h : tT K W (asT m) σ H Q) : tE K W m σ H (fun x H' => ∃ k, x = .bl k ∧ Q k H') := by
  obtain ⟨w, ρ, a, h⟩ := h
  refine tE_bind (f := fun _ x => PD.isB x) a h fun d v w1 e1 a1 hv h1 => ?_
  obtain ⟨b, rfl, h1⟩ := Pst.isB h1
  exact ⟨b, hv.bl_of, h1 w1 rfl (Ex.refl _) a1.2.1⟩
section
variable {X : Cx} {W : WX} {a b c : Expr} {ma mb mc : Rho → M D} {pos : Pos} {rest : List Expr} {ta tb : Rho → M Bool}
/-- an expression that hands back a bool, as a test -/
theorem pdt_val {e : Expr} {m : Rho → M D} (h : PDE X W e m) (he : ∀ whole, isTrue e X.env whole = (do let v ← whole; standAt e.pos; holding [v] (truthy v)) := by intro _; rfl) : PDT X W e (asT m) :=
  PT.imp (pt_val h he) fun _ _ _ h => tTest_of h
theorem pdt_cmp {op : CmpOp} {g : List MO → D → D → Option D} (ho : OpR X (compareOp op) (opM X.K g)) (ha : PDE X W a ma) (hb : PDE X W b mb) (hm : behindInMarks op b = false) : PDT X W (.Compare a [op] [b] pos) (asT (do2 ma mb g)) :=
  PT.imp (pt_cmpR ho ha hb hm) fun σ H Q h => by
    have := tTest_of h
    exact tOp_of this
def chain3 (ma mb mc : Rho → M D) (g g' : List MO → D → D → Option D) : Rho → M D := fun ρ => ma ρ >>= fun x => mb ρ >>= fun y => opd g x y >>= fun z => isB z >>= fun k =>
  if k = true then mc ρ >>= fun u => opd g' y u else pure (.bl false)
theorem tChain_of {K : Frag} {W : WX} {g g' : List MO → D → D → Option D} {σ : L2.St} {H : Hp} {Q : VK} (h : tE K W (chain3 ma mb mc g g') σ H Q) : tChain (opM K g) (opM K g') (tE K W ma) (tE K W mb) (tE K W mc) σ H Q := by
  obtain ⟨w, ρ, at0, h⟩ := h
  refine tE_bind (f := fun ρ x => mb ρ >>= fun y => opd g x y >>= fun z => isB z >>= fun k => if k = true then mc ρ >>= fun u => opd g' y u else pure (.bl false)) at0 h fun dx vx w1 e1 a1 hx h1 =>
    tE_bind (f := fun ρ y => opd g dx y >>= fun z => isB z >>= fun k => if k = true then mc ρ >>= fun u => opd g' y u else pure (.bl false)) a1 h1 fun dy vy w2 e2 a2 hy h2 => ?_
  obtain ⟨d, e, q⟩ := Pst.opd (Pst.bind h2)
  refine ⟨w2, dx, dy, d, rfl, a2.2.1, Dt.ex e2 hx, hy, e, fun w3 v hS e3 d3 hv => ?_⟩
  have q3 := q w3 hS e3 d3
  obtain ⟨k, rfl, q5⟩ := Pst.isB (Pst.bind q3)
  have q4 := q5 w3 rfl (Ex.refl _) d3
  refine ⟨k, hv.bl_of, ?_⟩
  cases k with
  | false =>
    rw [if_neg Bool.false_ne_true] at q4 ⊢
    exact q4 w3 rfl (Ex.refl _) d3 _ (.bl false)
  | true =>
    rw [if_pos rfl] at q4 ⊢
    refine tE_bind (f := fun ρ u => opd g' dy u) ⟨rfl, d3, a2.2.2.ex e3⟩ q4 fun du vu w4 e4 a4 hu h4 => ?_
    obtain ⟨d5, e5, q5⟩ := Pst.opd h4
    exact ⟨w4, dy, du, d5, rfl, a4.2.1, Dt.ex e4 (Dt.ex e3 hy), hu, e5, fun w' v' hS' x' d' hv' => q5 w' hS' x' d' v' hv'⟩
theorem pd_chain {op op' : CmpOp} {g g' : List MO → D → D → Option D} (ho : OpR X (compareOp op) (opM X.K g)) (ho' : OpR X (compareOp op') (opM X.K g')) (ha : PDE X W a ma) (hb : PDE X W b mb) (hc : PDE X W c mc)
    (hl : lastMarks [op, op'] [b, c] = false := by rfl) : PDE X W (.Compare a [op, op'] [b, c] pos) (chain3 ma mb mc g g') := PE.imp (pe_chain ho ho' ha hb hc hl) fun _ _ _ h => tChain_of h
theorem pdt_chain {op op' : CmpOp} {g g' : List MO → D → D → Option D} (ho : OpR X (compareOp op) (opM X.K g)) (ho' : OpR X (compareOp op') (opM X.K g')) (ha : PDE X W a ma) (hb : PDE X W b mb) (hc : PDE X W c mc)
    (hl : lastMarks [op, op'] [b, c] = false := by rfl) : PDT X W (.Compare a [op, op'] [b, c] pos) (asT (chain3 ma mb mc g g')) := PT.imp (pt_chain ho ho' ha hb hc hl) fun σ H Q h => by
  have := tTest_of h
  exact tChain_of this
def notT (m : Rho → M Bool) : Rho → M Bool := fun ρ => m ρ >>= fun b => pure (!b)
theorem pdt_not (h : PDT X W a ta) : PDT X W (.UnaryOp .Not a pos) (notT ta) := PT.imp (pt_not h) fun σ H Q ⟨w, ρ, at0, h⟩ =>
  tT_bind (f := fun _ b => pure (!b)) at0 h fun b w1 e1 a1 h1 => h1 w1 rfl (Ex.refl _) a1.2.1
def ofT (m : Rho → M Bool) : Rho → M D := fun ρ => m ρ >>= fun b => pure (.bl b)
def andT (m n : Rho → M Bool) : Rho → M Bool := fun ρ => m ρ >>= fun b => if b = true then n ρ else pure false
def orT (m n : Rho → M Bool) : Rho → M Bool := fun ρ => m ρ >>= fun b => if b = true then pure true else n ρ
theorem PDW.pt {e : Expr} (h : PDW X W e ta) : PDT X W e ta := PW.pt h
theorem pdw_and1 (ha : PDT X W a ta) : PDW X W (.BoolOp .And [a] pos) ta := pw_and1 ha
theorem pdw_or1 (ha : PDT X W a ta) : PDW X W (.BoolOp .Or [a] pos) ta := pw_or1 ha
theorem pdw_and (ha : PDT X W a ta) (hb : PDW X W (.BoolOp .And (b :: rest) pos) tb) : PDW X W (.BoolOp .And (a :: b :: rest) pos) (andT ta tb) := PW.imp (pw_and ha hb) fun σ H Q ⟨w, ρ, at0, h⟩ =>
  tT_bind (f := fun ρ b => if b = true then tb ρ else pure false) at0 h fun b w1 e1 a1 h1 => by
    cases b with
    | true => rw [if_pos rfl] at h1 ⊢; exact ⟨w1, ρ, a1, h1⟩
    | false => rw [if_neg Bool.false_ne_true] at h1 ⊢; exact h1 w1 rfl (Ex.refl _) a1.2.1
theorem pdw_or (ha : PDT X W a ta) (hb : PDW X W (.BoolOp .Or (b :: rest) pos) tb) : PDW X W (.BoolOp .Or (a :: b :: rest) pos) (orT ta tb) := PW.imp (pw_or ha hb) fun σ H Q ⟨w, ρ, at0, h⟩ =>
  tT_bind (f := fun ρ b => if b = true then pure true else tb ρ) at0 h fun b w1 e1 a1 h1 => by
    cases b with
    | true => rw [if_pos rfl] at h1 ⊢; exact h1 w1 rfl (Ex.refl _) a1.2.1
    | false => rw [if_neg Bool.false_ne_true] at h1 ⊢; exact ⟨w1, ρ, a1, h1⟩
/-! .. as values -/
def andV (m n : Rho → M D) : Rho → M D := fun ρ => m ρ >>= fun x => isB x >>= fun b => if b = true then n ρ else pure (.bl false)
def orV (m n : Rho → M D) : Rho → M D := fun ρ => m ρ >>= fun x => isB x >>= fun b => if b = true then pure (.bl true) else n ρ
def notV (m : Rho → M D) : Rho → M D := fun ρ => m ρ >>= fun x => isB x >>= fun b => pure (.bl (!b))
theorem pd_one {op} {m : Rho → M D} (h : PDE X W a m) : PDE X W (.BoolOp op [a] pos) m := pe_one h
theorem pd_and (ha : PDE X W a ma) (hb : PDE X W (.BoolOp .And (b :: rest) pos) mb) : PDE X W (.BoolOp .And (a :: b :: rest) pos) (andV ma mb) := PE.imp (pe_and ha hb) fun σ H Q ⟨w, ρ, at0, h⟩ =>
  tE_bind (f := fun ρ x => isB x >>= fun b => if b = true then mb ρ else pure (.bl false)) at0 h fun d v w1 e1 a1 hv h1 => by
    obtain ⟨k, rfl, h2⟩ := Pst.isB (Pst.bind h1)
    have h3 := h2 w1 rfl (Ex.refl _) a1.2.1
    refine ⟨k, hv.bl_of, ?_⟩
    cases k with
    | true => rw [if_pos rfl] at h3 ⊢; exact ⟨w1, ρ, a1, h3⟩
    | false => rw [if_neg Bool.false_ne_true] at h3 ⊢; exact h3 w1 rfl (Ex.refl _) a1.2.1 _ (.bl false)
theorem pd_or (ha : PDE X W a ma) (hb : PDE X W (.BoolOp .Or (b :: rest) pos) mb) : PDE X W (.BoolOp .Or (a :: b :: rest) pos) (orV ma mb) := PE.imp (pe_or ha hb) fun σ H Q ⟨w, ρ, at0, h⟩ =>
  tE_bind (f := fun ρ x => isB x >>= fun b => if b = true then pure (.bl true) else mb ρ) at0 h fun d v w1 e1 a1 hv h1 => by
    obtain ⟨k, rfl, h2⟩ := Pst.isB (Pst.bind h1)
    have h3 := h2 w1 rfl (Ex.refl _) a1.2.1
    refine ⟨k, hv.bl_of, ?_⟩
    cases k with
    | true => rw [if_pos rfl] at h3 ⊢; exact h3 w1 rfl (Ex.refl _) a1.2.1 _ (.bl true)
    | false => rw [if_neg Bool.false_ne_true] at h3 ⊢; exact ⟨w1, ρ, a1, h3⟩
theorem pd_not (ha : PDE X W a ma) : PDE X W (.UnaryOp .Not a pos) (notV ma) := PE.imp (pe_not ha) fun σ H Q ⟨w, ρ, at0, h⟩ =>
  tE_bind (f := fun ρ x => isB x >>= fun b => pure (D.bl (!b))) at0 h fun d v w1 e1 a1 hv h1 => by
    obtain ⟨k, rfl, h2⟩ := Pst.isB (Pst.bind h1)
    have h3 := h2 w1 rfl (Ex.refl _) a1.2.1
    exact ⟨k, hv.bl_of, h3 w1 rfl (Ex.refl _) a1.2.1 _ (.bl _)⟩
def ifM (t : Rho → M Bool) (m n : Rho → M D) : Rho → M D := fun ρ => t ρ >>= fun b => if b = true then m ρ else n ρ
theorem pd_if (hc : PDT X W c ta) (ha : PDE X W a ma) (hb : PDE X W b mb) : PDE X W (.IfExp c a b pos) (ifM ta ma mb) := PE.imp (pe_ifExp hc ha hb) fun σ H Q ⟨w, ρ, at0, h⟩ =>
  tT_bind (f := fun ρ b => if b = true then ma ρ else mb ρ) at0 h fun k w1 e1 a1 h1 => by
    cases k with
    | true => rw [if_pos rfl] at h1 ⊢; exact ⟨w1, ρ, a1, h1⟩
    | false => rw [if_neg Bool.false_ne_true] at h1 ⊢; exact ⟨w1, ρ, a1, h1⟩
end

/-! ### argument lists, displays, calls by values -/
section
variable {X : Cx} {W : WX} {e : Expr} {es : List Expr} {m : Rho → M D} {ms : Rho → M (List D)} {p pos : Pos}
def consM (m : Rho → M D) (ms : Rho → M (List D)) : Rho → M (List D) := fun ρ => m ρ >>= fun x => ms ρ >>= fun xs => pure (x :: xs)
theorem pda_nil : PDA X W [] (fun _ => pure []) := PA.imp pa_nil fun σ H Q ⟨w, ρ, a, h⟩ => by
  have := h w rfl (Ex.refl w) a.2.1 [] .nil
  rw [a.1] at this
  exact this
theorem pda_cons (he : PDE X W e m) (hr : PDA X W es ms) (hs : starEach (e :: es) X.env = (false, eval e X.env) :: starEach es X.env := by rfl) : PDA X W (e :: es) (consM m ms) := PA.imp (pa_cons he hr hs) fun σ H Q ⟨w, ρ, a, h⟩ =>
  tE_bind (f := fun ρ x => ms ρ >>= fun xs => pure (x :: xs)) a h fun d v w1 e1 a1 hv h1 => tA_bind (f := fun _ xs => pure (d :: xs)) a1 h1 fun ds vs w2 e2 a2 hvs h2 => h2 w2 rfl (Ex.refl _) a2.2.1 _ (.cons (Dt.ex e2 hv) hvs)
/-- items of a list, a tuple -/
def seqOf (S : List MO) : D → Option (List D)
  | .tup xs => some xs
  | .lst xs => some xs
  | .fl xs => some xs
  | .ob n => match S[n]? with
    | some (.ml xs) => some xs
    | _ => none
  | _ => none
def seqM (x : D) : M (List D) := fun S => toRes (seqOf S x) S
theorem Pst.seqM {K : Frag} {W : XK} {w : Wr} {x : D} {k : List D → Wr → Prop} (h : Pst K W w (seqM x w.S) k) : ∃ d, seqOf w.S x = some d ∧ ∀ w', w'.S = w.S → Ex w w' → Wd K w' → k d w' := by
  unfold PD.seqM at h
  cases e : seqOf w.S x with
  | none => rw [e] at h; exact h.elim
  | some d => rw [e] at h; exact ⟨d, rfl, h⟩
def starM (m : Rho → M D) (ms : Rho → M (List D)) : Rho → M (List D) := fun ρ => m ρ >>= fun x => seqM x >>= fun xs => ms ρ >>= fun ys => pure (xs ++ ys)
theorem seqOf_ok {K : Frag} {w : Wr} (d : Wd K w) {v : V} {x : D} {xs : List D} (h : Dt K w v x) (e : seqOf w.S x = some xs) : ∃ a vs, v = .ref a ∧ (SqT K w.H a vs ∨ SqL K w.H a vs) ∧ Dts K w vs xs := by
  cases h with
  | tup q _ t => cases e; exact ⟨_, _, rfl, .inl (SqT.same d.fz q), t⟩
  | lst q _ t => cases e; exact ⟨_, _, rfl, .inr (SqL.of (d.fz _ _ q)), t⟩
  | fl q _ t => cases e; exact ⟨_, _, rfl, .inr (SqL.same d.fz q), t⟩
  | ob n hn =>
    simp only [seqOf] at e
    cases q : w.S[n]? with
    | none => rw [q] at e; cases e
    | some o =>
      rw [q] at e
      cases o with
      | ml ys =>
        cases e
        obtain ⟨vs, e1, t⟩ := d.ob n _ q
        exact ⟨_, vs, rfl, .inr (SqL.of e1), t⟩
      | _ => cases e
  | _ => cases e
theorem pda_star (he : PDE X W e m) (hr : PDA X W es ms) (hs : starEach (.Starred e p :: es) X.env = (true, eval e X.env) :: starEach es X.env := by rfl) : PDA X W (.Starred e p :: es) (starM m ms) := PA.imp (StX.pa_star he hr hs) fun σ H Q ⟨w, ρ, a, h⟩ =>
  tE_bind (f := fun ρ x => seqM x >>= fun xs => ms ρ >>= fun ys => pure (xs ++ ys)) a h fun d v w1 e1 a1 hv h1 => by
    obtain ⟨xs, q, h2⟩ := Pst.seqM (Pst.bind h1)
    obtain ⟨p, vs, rfl, hq, t⟩ := seqOf_ok a1.2.1 hv q
    refine ⟨p, vs, rfl, hq, ?_⟩
    have h3 := h2 w1 rfl (Ex.refl _) a1.2.1
    exact tA_bind (f := fun _ ys => pure (xs ++ ys)) a1 h3 fun ds us w2 e2 a2 hus h4 => h4 w2 rfl (Ex.refl _) a2.2.1 _ ((Dts.ex e2 t).append hus)
def mkT (xs : List D) : M D := if xs.length ≤ sizeLine then pure (.tup xs) else bad
def mkL (xs : List D) : M D := if xs.length ≤ sizeLine then pure (.lst xs) else bad
theorem Pst.mkT {K : Frag} {W : XK} {w : Wr} {xs : List D} {k : D → Wr → Prop} (h : Pst K W w (mkT xs w.S) k) : xs.length ≤ sizeLine ∧ ∀ w', w'.S = w.S → Ex w w' → Wd K w' → k (.tup xs) w' := by
  unfold PD.mkT at h
  by_cases hl : xs.length ≤ sizeLine
  · rw [if_pos hl] at h; exact ⟨hl, h⟩
  · rw [if_neg hl] at h; exact h.elim
theorem Pst.mkL {K : Frag} {W : XK} {w : Wr} {xs : List D} {k : D → Wr → Prop} (h : Pst K W w (mkL xs w.S) k) : xs.length ≤ sizeLine ∧ ∀ w', w'.S = w.S → Ex w w' → Wd K w' → k (.lst xs) w' := by
  unfold PD.mkL at h
  by_cases hl : xs.length ≤ sizeLine
  · rw [if_pos hl] at h; exact ⟨hl, h⟩
  · rw [if_neg hl] at h; exact h.elim
def tupM (ms : Rho → M (List D)) : Rho → M D := fun ρ => ms ρ >>= fun xs => PD.mkT xs
def lstM (ms : Rho → M (List D)) : Rho → M D := fun ρ => ms ρ >>= fun xs => PD.mkL xs
theorem pd_tup {x1} (h : PDA X W es ms) : PDE X W (.Tuple es x1 pos) (tupM ms) := PE.imp (pe_tup h) fun σ H Q ⟨w, ρ, a, h⟩ =>
  tA_bind (f := fun _ xs => PD.mkT xs) a h fun ds vs w1 e1 a1 hvs h1 => by
    obtain ⟨hl, h2⟩ := Pst.mkT h1
    refine ⟨by rw [hvs.length]; exact hl, fun p hp => ?_⟩
    obtain ⟨w2, hS, hH, x2, d2, t2⟩ := new_tup a1.2.1 hp hvs hl
    have := h2 w2 hS x2 d2 _ t2
    rw [hH] at this
    exact this
theorem pd_lst (h : PDA X W es ms) : PDE X W (.List es pos) (lstM ms) := PE.imp (pe_lst h) fun σ H Q ⟨w, ρ, a, h⟩ =>
  tA_bind (f := fun _ xs => PD.mkL xs) a h fun ds vs w1 e1 a1 hvs h1 => by
    obtain ⟨hl, h2⟩ := Pst.mkL h1
    refine ⟨by rw [hvs.length]; exact hl, fun p hp => ?_⟩
    obtain ⟨w2, hS, hH, x2, d2, t2⟩ := new_lst a1.2.1 hp hvs hl
    have := h2 w2 hS x2 d2 _ t2
    rw [hH] at this
    exact this
/-! a new thing of the store -/
def alloc (o : MO) : M D := fun S => .ok (.ob S.length) (S ++ [o])
def objM (ms : Rho → M (List D)) : Rho → M D := fun ρ => ms ρ >>= fun xs => if xs.length ≤ sizeLine then alloc (.ml xs) else bad

/-! calls of built-in functions -/
def callM (K : Frag) (g : List MO → List D → Option D) : List V → Hp → VK → Prop := fun xs H Q => ∃ w dx d, w.H = H ∧ Wd K w ∧ Dts K w xs dx ∧ g w.S dx = some d ∧
  ∀ w' v, w'.S = w.S → Ex w w' → Wd K w' → Dt K w' v d → Q v w'.H
def opl (g : List MO → List D → Option D) (xs : List D) : M D := fun S => toRes (g S xs) S
theorem Pst.opl {K : Frag} {W : XK} {w : Wr} {g : List MO → List D → Option D} {x : List D} {k : D → Wr → Prop} (h : Pst K W w (opl g x w.S) k) : ∃ d, g w.S x = some d ∧ ∀ w', w'.S = w.S → Ex w w' → Wd K w' → k d w' := by
  unfold PD.opl at h
  cases e : g w.S x with
  | none => rw [e] at h; exact h.elim
  | some d => rw [e] at h; exact ⟨d, rfl, h⟩
def bltM (ms : Rho → M (List D)) (g : List MO → List D → Option D) : Rho → M D := fun ρ => ms ρ >>= fun xs => opl g xs
theorem tCB_of {K : Frag} {g : List MO → List D → Option D} {σ : L2.St} {H : Hp} {Q : VK} (h : tE K W (bltM ms g) σ H Q) : tCB (callM K g) (tA K W ms) σ H Q := by
  obtain ⟨w, ρ, a, h⟩ := h
  refine tA_bind (f := fun ρ xs => opl g xs) a h fun dx vx w1 e1 a1 hx h1 => ?_
  obtain ⟨d, e, q⟩ := Pst.opl h1
  exact ⟨w1, dx, d, rfl, a1.2.1, hx, e, fun w' v hS x d' hv => q w' hS x d' v hv⟩
theorem pd_blt {x : Str} {id : String} {g : List MO → List D → Option D} (hc : CallR X (.builtin id) (callM X.K g)) (hg : Gl X x) (hm : X.mg x = none) (hv : bootBuiltins x = some (.builtin id)) (ha : PDA X W (e :: es) ms) (hn : x ≠ "__name__" := by decide) (hdb : (x == ("__debug__" : Str)) = false := by decide)
    (hst : starEach (e :: es) X.env = (false, eval e X.env) :: starEach es X.env := by rfl) (hpl : (backTo pos (starEach es X.env)).any (·.1) = false := by rfl) : PDE X W (.Call (.Name x p) (e :: es) [] pos) (bltM ms g) :=
  PE.imp (pe_callB hc hg hm hv ha hn hdb hst hpl) fun _ _ _ h => tCB_of h
theorem pd_bty {x : Str} {T : String} {g : List MO → List D → Option D} (hc : CallR X (.type T) (callM X.K g)) (hg : Gl X x) (hm : X.mg x = none) (hv : bootBuiltins x = some (.type T)) (ha : PDA X W (e :: es) ms) (hn : x ≠ "__name__" := by decide) (hdb : (x == ("__debug__" : Str)) = false := by decide)
    (hst : starEach (e :: es) X.env = (false, eval e X.env) :: starEach es X.env := by rfl) (hpl : (backTo pos (starEach es X.env)).any (·.1) = false := by rfl) : PDE X W (.Call (.Name x p) (e :: es) [] pos) (bltM ms g) :=
  PE.imp (pe_callTy hc hg hm hv ha hn hdb hst hpl) fun _ _ _ h => tCB_of h
end
end PD

set_option Elab.async false
set_option linter.all false
set_option maxRecDepth 100000
namespace PD
open PySem PySem.Spec PyProof.Rows L2

/-! ### statements -/
inductive Fl where
  | nx (ρ : Rho) | rt (d : D) | bk (ρ : Rho) | ct (ρ : Rho)
def kS (K : Frag) (Dn : Ends) : Fl → Wr → Prop
  | .nx ρ, w => ∀ σ, Lo K w σ ρ → Dn.nx σ w.H
  | .rt d, w => ∀ v, Dt K w v d → Dn.rt v w.H
  | .bk ρ, w => ∀ σ, Lo K w σ ρ → Dn.bk σ w.H
  | .ct ρ, w => ∀ σ, Lo K w σ ρ → Dn.ct σ w.H
def tS (K : Frag) (W : WX) (m : Rho → M Fl) : TS := fun Dn σ H => ∃ w ρ, At K w σ ρ H ∧ Pst K (WE W σ) w (m ρ w.S) (kS K Dn)
def PDS (X : Cx) (W : WX) (st : Stmt) (m : Rho → M Fl) : Prop := PS X st (tS X.K W m)
def PDSs (X : Cx) (W : WX) (sts : List Stmt) (m : Rho → M Fl) : Prop := PSs X sts (tS X.K W m)
/-- the wish about exceptions does not look at the slots -/
def Blind (W : WX) : Prop := ∀ c d σ σ' H, W c d σ H → W c d σ' H
theorem Pst.blind {K : Frag} {W : WX} (b : Blind W) {α : Type} {σ σ' : L2.St} {w : Wr} {r : Res α} {k : α → Wr → Prop} (h : Pst K (WE W σ) w r k) : Pst K (WE W σ') w r k := by
  cases r with
  | ok a S => exact h
  | exc C fs S => exact fun w' dd e x d q => b _ _ _ _ _ (h w' dd e x d q)
  | bad => exact h
section
variable {X : Cx} {W : WX} {st : Stmt} {rest body orelse : List Stmt} {e c : Expr} {m : Rho → M D} {t : Rho → M Bool} {ms ns : Rho → M Fl} {pos : Pos}
def retS (m : Rho → M D) : Rho → M Fl := fun ρ => m ρ >>= fun d => pure (.rt d)
def dropS (m : Rho → M D) : Rho → M Fl := fun ρ => m ρ >>= fun _ => pure (.nx ρ)
def setS (i : Nat) (m : Rho → M D) : Rho → M Fl := fun ρ => m ρ >>= fun d => pure (.nx (ρ.set i (some d)))
def ifS (t : Rho → M Bool) (ms ns : Rho → M Fl) : Rho → M Fl := fun ρ => t ρ >>= fun b => if b = true then ms ρ else ns ρ
def thenF (n : Rho → M Fl) : Fl → M Fl
  | .nx ρ => n ρ
  | f => pure f
def seqS (ms ns : Rho → M Fl) : Rho → M Fl := fun ρ => ms ρ >>= thenF ns
def skipS : Rho → M Fl := fun ρ => pure (.nx ρ)
theorem pds_ret (he : PDE X W e m) : PDS X W (.Return (some e) pos) (retS m) := PS.imp (ps_ret he) fun Dn σ H ⟨w, ρ, a, h⟩ =>
  tE_bind (f := fun _ d => pure (Fl.rt d)) a h fun d v w1 e1 a1 hv h1 => h1 w1 rfl (Ex.refl _) a1.2.1 v hv
theorem pds_retN : PDS X W (.Return none pos) (fun _ => pure (.rt .non)) := PS.imp ps_retN fun Dn σ H ⟨w, ρ, a, h⟩ => by
  have := h w rfl (Ex.refl _) a.2.1 _ .non
  rw [a.1] at this
  exact this
theorem pds_expr (he : PDE X W e m) (hs : swapsWith e none pos.line X.env = pure false := by rfl) : PDS X W (.Expr e pos) (dropS m) := PS.imp (ps_expr he hs) fun Dn σ H ⟨w, ρ, a, h⟩ =>
  tE_bind (f := fun ρ _ => pure (Fl.nx ρ)) a h fun d v w1 e1 a1 hv h1 => h1 w1 rfl (Ex.refl _) a1.2.1 σ a1.2.2
theorem pds_doc {x j pos pos'} : PDS X W (.Expr (.Constant (.str x) j pos) pos') skipS := PS.imp ps_doc fun Dn σ H ⟨w, ρ, a, h⟩ => by
  have := h w rfl (Ex.refl _) a.2.1 σ a.2.2
  rw [a.1] at this
  exact this
theorem pds_pass : PDS X W (.Pass pos) skipS := PS.imp ps_pass fun Dn σ H ⟨w, ρ, a, h⟩ => by
  have := h w rfl (Ex.refl _) a.2.1 σ a.2.2
  rw [a.1] at this
  exact this
theorem pds_break : PDS X W (.Break pos) (fun ρ => pure (.bk ρ)) := PS.imp ps_break fun Dn σ H ⟨w, ρ, a, h⟩ => by
  have := h w rfl (Ex.refl _) a.2.1 σ a.2.2
  rw [a.1] at this
  exact this
theorem pds_continue : PDS X W (.Continue pos) (fun ρ => pure (.ct ρ)) := PS.imp ps_continue fun Dn σ H ⟨w, ρ, a, h⟩ => by
  have := h w rfl (Ex.refl _) a.2.1 σ a.2.2
  rw [a.1] at this
  exact this
theorem pds_set (i : Nat) {x : Str} {pos' : Pos} (he : PDE X W e m) (hN : X.N.Nodup) (hi : X.N[i]? = some x := by rfl) (hx : Loc X.env.scope x := by first | exact Or.inl rfl | exact Or.inr rfl) (hs : swapsWith e (some (.Name x pos')) pos.line X.env = pure false := by rfl)
    (hf : X.fn x = true ∨ X.env.scope.names.lookup x = some .local := by first | exact .inl rfl | exact .inr rfl | assumption) : PDS X W (.Assign [.Name x pos'] e pos) (setS i m) := PS.imp (ps_set hN hi hx he hs hf) fun Dn σ H ⟨w, ρ, a, h⟩ =>
  tE_bind (f := fun ρ d => pure (Fl.nx (ρ.set i (some d)))) a h fun d v w1 e1 a1 hv h1 => h1 w1 rfl (Ex.refl _) a1.2.1 _ (a1.2.2.set hv)
theorem pds_if (hc : PDT X W c t) (ha : PDSs X W body ms) (hb : PDSs X W orelse ns) : PDS X W (.If c body orelse pos) (ifS t ms ns) := PS.imp (ps_if hc ha hb) fun Dn σ H ⟨w, ρ, a, h⟩ =>
  tT_bind (f := fun ρ b => if b = true then ms ρ else ns ρ) a h fun k w1 e1 a1 h1 => by
    cases k with
    | true => rw [if_pos rfl] at h1 ⊢; exact ⟨w1, ρ, a1, h1⟩
    | false => rw [if_neg Bool.false_ne_true] at h1 ⊢; exact ⟨w1, ρ, a1, h1⟩
theorem pdss_nil : PDSs X W [] skipS := PSs.imp pss_nil fun Dn σ H ⟨w, ρ, a, h⟩ => by
  have := h w rfl (Ex.refl _) a.2.1 σ a.2.2
  rw [a.1] at this
  exact this
theorem pdss_one (h : PDS X W st ms) : PDSs X W [st] ms := pss_one h
theorem pdss_cons (bl : Blind W) (h : PDS X W st ms) (hr : PDSs X W rest ns) : PDSs X W (st :: rest) (seqS ms ns) := PSs.imp (pss_cons h hr) fun Dn σ H ⟨w, ρ, a, h⟩ =>
  ⟨w, ρ, a, (Pst.bind h).mono fun f w1 e1 d1 h1 => by
    cases f with
    | nx ρ' => exact fun σ' l' => ⟨w1, ρ', ⟨rfl, d1, l'⟩, Pst.blind bl h1⟩
    | rt d => exact h1 w1 rfl (Ex.refl _) d1
    | bk ρ' => exact h1 w1 rfl (Ex.refl _) d1
    | ct ρ' => exact h1 w1 rfl (Ex.refl _) d1⟩
end

/-! ### targets -/
def gM (K : Frag) (W : WX) (g : D → Rho → M Rho) : TG := fun v σ H Q => ∃ w ρ d, At K w σ ρ H ∧ Dt K w v d ∧ Pst K (WE W σ) w (g d ρ w.S) (fun ρ' w' => ∀ σ', Lo K w' σ' ρ' → Q σ' w'.H)
def gsM (K : Frag) (W : WX) (g : List D → Rho → M Rho) : TGs := fun vs σ H Q => ∃ w ρ ds, At K w σ ρ H ∧ Dts K w vs ds ∧ Pst K (WE W σ) w (g ds ρ w.S) (fun ρ' w' => ∀ σ', Lo K w' σ' ρ' → Q σ' w'.H)
def PDG (X : Cx) (W : WX) (tg : Expr) (g : D → Rho → M Rho) : Prop := PG X tg (gM X.K W g)
def PDGs (X : Cx) (W : WX) (ts : List Expr) (g : List D → Rho → M Rho) : Prop := PGs X ts (gsM X.K W g)
theorem PG.imp {X : Cx} {e : Expr} {t t' : TG} (h : PG X e t) (i : ∀ v σ H Q, t' v σ H Q → t v σ H Q) : PG X e t' := ⟨fun pins s σ H v u Q I r q => h.run pins s σ H v u Q I r (i _ _ _ _ q)⟩
theorem PGs.imp {X : Cx} {es : List Expr} {t t' : TGs} (h : PGs X es t) (i : ∀ v σ H Q, t' v σ H Q → t v σ H Q) : PGs X es t' := ⟨fun pins s σ H v u Q I r q => h.run pins s σ H v u Q I r (i _ _ _ _ q)⟩
section
variable {X : Cx} {W : WX} {pos : Pos} {e : Expr} {es : List Expr} {g : D → Rho → M Rho} {gs : List D → Rho → M Rho}
def gSet (i : Nat) : D → Rho → M Rho := fun d ρ => pure (ρ.set i (some d))
theorem pdg_name (i : Nat) {x : Str} (hN : X.N.Nodup) (hi : X.N[i]? = some x := by rfl) (hx : Loc X.env.scope x := by first | exact Or.inl rfl | exact Or.inr rfl) (hf : X.fn x = true ∨ X.env.scope.names.lookup x = some .local := by first | exact .inl rfl | exact .inr rfl | assumption) :
    PDG X W (.Name x pos) (gSet i) := PG.imp (pg_name hN hi hx hf) fun v σ H Q ⟨w, ρ, d, a, hv, h⟩ => by
  have := h w rfl (Ex.refl _) a.2.1 _ (a.2.2.set hv)
  rw [a.1] at this
  exact this
def gNilM : List D → Rho → M Rho := fun ds ρ => match ds with
  | [] => pure ρ
  | _ => bad
def gConsM (g : D → Rho → M Rho) (gs : List D → Rho → M Rho) : List D → Rho → M Rho := fun ds ρ => match ds with
  | d :: ds => g d ρ >>= fun ρ' => gs ds ρ'
  | [] => bad
theorem pdgs_nil : PDGs X W [] gNilM := PGs.imp pgs_nil fun vs σ H Q ⟨w, ρ, ds, a, hv, h⟩ => by
  cases ds with
  | nil =>
    cases hv
    have := h w rfl (Ex.refl _) a.2.1 σ a.2.2
    rw [a.1] at this
    exact ⟨rfl, this⟩
  | cons d ds => exact h.elim
theorem pdgs_cons (bl : Blind W) (h : PDG X W e g) (hr : PDGs X W es gs) (hs : (assignEach (e :: es) X.env).map (·.2) = assign e X.env :: (assignEach es X.env).map (·.2) := by rfl) : PDGs X W (e :: es) (gConsM g gs) := PGs.imp (pgs_cons h hr hs) fun vs σ H Q ⟨w, ρ, ds, a, hv, h⟩ => by
  cases ds with
  | nil => exact h.elim
  | cons d ds =>
    cases hv with
    | cons h1 h2 =>
      refine ⟨_, _, rfl, w, ρ, d, a, h1, (Pst.bind (m := g d ρ) (f := fun ρ' => gs ds ρ') h).mono fun ρ' w1 e1 d1 q1 σ' l' => ?_⟩
      exact ⟨w1, ρ', ds, ⟨rfl, d1, l'⟩, Dts.ex e1 h2, Pst.blind bl q1⟩
def gTupM (n : Nat) (gs : List D → Rho → M Rho) : D → Rho → M Rho := fun d ρ => match d with
  | .tup ds => if ds.length = n then gs ds ρ else bad
  | _ => bad
theorem pdg_tup {k : Nat} (n : Nat) (hc : X.calm = true) (h : PDGs X W es gs) (hn : (assignEach es X.env).length = n := by rfl) (hst : (assignEach es X.env).findIdx? (·.1) = none := by rfl) : PDG X W (.Tuple es k pos) (gTupM n gs) :=
  PG.imp (pg_tup hc h hn hst) fun v σ H Q ⟨w, ρ, d, a, hv, h⟩ => by
    cases d with
    | tup ds =>
      have h : Pst X.K (WE W σ) w ((if ds.length = n then gs ds ρ else bad : M Rho) w.S) (fun ρ' w' => ∀ σ', Lo X.K w' σ' ρ' → Q σ' w'.H) := h
      cases hv with
      | tup q _ t =>
        by_cases hl : ds.length = n
        · rw [if_pos hl] at h
          exact ⟨_, _, rfl, by rw [← a.1]; exact SqT.same a.2.1.fz q, by rw [t.length]; exact hl, w, ρ, ds, a, t, h⟩
        · rw [if_neg hl] at h; exact h.elim
    | _ => exact h.elim
def asgS (m : Rho → M D) (g : D → Rho → M Rho) : Rho → M Fl := fun ρ => m ρ >>= fun d => g d ρ >>= fun ρ' => pure (.nx ρ')
theorem pds_asg {tg : Expr} {m : Rho → M D} (he : PDE X W e m) (hg : PDG X W tg g) (hs : swapsWithSole [tg] e pos.line X.env = pure false := by rfl) (hw : swappedStores [tg] e X.env = pure none := by rfl)
    (h1 : (assignEach [tg] X.env).map (·.2) = [assign tg X.env] := by rfl) : PDS X W (.Assign [tg] e pos) (asgS m g) := PS.imp (ps_asg he hg hs hw h1) fun Dn σ H ⟨w, ρ, a, h⟩ =>
  tE_bind (f := fun ρ d => g d ρ >>= fun ρ' => pure (Fl.nx ρ')) a h fun d v w1 e1 a1 hv h1 => ⟨w1, ρ, d, a1, hv, (Pst.bind h1).mono fun ρ' w2 e2 d2 h2 σ' l' => h2 w2 rfl (Ex.refl _) d2 σ' l'⟩
/-- a, b = x, y -/
def parS (i j : Nat) (ms : Rho → M (List D)) : Rho → M Fl := fun ρ => ms ρ >>= fun ds => match ds with
  | [d, e] => pure (.nx ((ρ.set i (some d)).set j (some e)))
  | _ => bad
end

/-! ### defs -/
mutual
def D.cl (N : Nat) : D → Bool
  | .tup xs => D.clAll N xs
  | .lst xs => D.clAll N xs
  | .fl xs => D.clAll N xs
  | .dk _ vs => D.clAll N vs
  | .dt _ vs => D.clAll N vs
  | .ins _ _ vs => D.clAll N vs
  | .ob n => decide (n < N)
  | _ => true
def D.clAll (N : Nat) : List D → Bool
  | [] => true
  | d :: ds => D.cl N d && D.clAll N ds
end
def MO.cl (N : Nat) : MO → Bool
  | .ml xs => D.clAll N xs
  | .mk _ vs => D.clAll N vs
  | .mt _ vs => D.clAll N vs
  | .mi _ _ vs => D.clAll N vs
mutual
theorem Dat.cl {K : Frag} {ι : Nat → Addr} {N N' : Nat} {B : Hp} : ∀ {v : V} {d : D}, Dat K ι N' B v d → d.cl N = true → Dat K ι N B v d
  | _, _, .non, _ => .non
  | _, _, .bl b, _ => .bl b
  | _, _, .int i, _ => .int i
  | _, _, .str x h, _ => .str x h
  | _, _, .ty n, _ => .ty n
  | _, _, .ref a, _ => .ref a
  | _, _, .tup q l t, c => .tup q l (Dats.cl t (by simpa [D.cl] using c))
  | _, _, .lst q l t, c => .lst q l (Dats.cl t (by simpa [D.cl] using c))
  | _, _, .fl q l t, c => .fl q l (Dats.cl t (by simpa [D.cl] using c))
  | _, _, .dk q l z t, c => .dk q l z (Dats.cl t (by simpa [D.cl] using c))
  | _, _, .dt q l z t, c => .dt q l z (Dats.cl t (by simpa [D.cl] using c))
  | _, _, .ins q l t, c => .ins q l (Dats.cl t (by simpa [D.cl] using c))
  | _, _, .ob n _, c => .ob n (by simpa [D.cl] using c)
theorem Dats.cl {K : Frag} {ι : Nat → Addr} {N N' : Nat} {B : Hp} : ∀ {vs : List V} {ds : List D}, Dats K ι N' B vs ds → D.clAll N ds = true → Dats K ι N B vs ds
  | _, _, .nil, _ => .nil
  | _, _, .cons h t, c => by
    simp only [D.clAll, Bool.and_eq_true] at c
    exact .cons (Dat.cl h c.1) (Dats.cl t c.2)
end
mutual
theorem Dat.closed {K : Frag} {ι : Nat → Addr} {N : Nat} {B : Hp} : ∀ {v : V} {d : D}, Dat K ι N B v d → d.cl N = true
  | _, _, .non => rfl
  | _, _, .bl b => rfl
  | _, _, .int i => rfl
  | _, _, .str x h => rfl
  | _, _, .ty n => rfl
  | _, _, .ref a => rfl
  | _, _, .tup q _ t => Dats.closed t
  | _, _, .lst q _ t => Dats.closed t
  | _, _, .fl q _ t => Dats.closed t
  | _, _, .dk q l _ t => Dats.closed t
  | _, _, .dt q l _ t => Dats.closed t
  | _, _, .ins q l t => Dats.closed t
  | _, _, .ob n h => decide_eq_true h
theorem Dats.closed {K : Frag} {ι : Nat → Addr} {N : Nat} {B : Hp} : ∀ {vs : List V} {ds : List D}, Dats K ι N B vs ds → D.clAll N ds = true
  | _, _, .nil => rfl
  | _, _, .cons h t => by simp only [D.clAll, Dat.closed h, Dats.closed t, Bool.and_self]
end
theorem Wd.closed {K : Frag} {w : Wr} (d : Wd K w) {n : Nat} {o : MO} (h : w.S[n]? = some o) : o.cl w.S.length = true := by
  have q := d.ob n o h
  cases o with
  | ml xs => obtain ⟨_, _, t⟩ := q; exact t.closed
  | mk _ _ => obtain ⟨_, _, _, t⟩ := q; exact t.closed
  | mt _ _ => obtain ⟨_, _, _, t⟩ := q; exact t.closed
  | mi _ _ _ => obtain ⟨_, _, _, _, t⟩ := q; exact t.closed
mutual
/-- sizes as the machine lets them be -/
def D.fit : D → Bool
  | .str x => decide (x.length ≤ sizeLine)
  | .tup xs => decide (xs.length ≤ sizeLine) && D.fitAll xs
  | .lst xs => decide (xs.length ≤ sizeLine) && D.fitAll xs
  | .fl xs => decide (xs.length ≤ sizeLine) && D.fitAll xs
  | .dk _ vs => decide (vs.length ≤ sizeLine) && D.fitAll vs
  | .dt _ vs => decide (vs.length ≤ sizeLine) && D.fitAll vs
  | .ins _ _ vs => D.fitAll vs
  | _ => true
def D.fitAll : List D → Bool
  | [] => true
  | d :: ds => D.fit d && D.fitAll ds
end
mutual
theorem Dat.fits {K : Frag} {ι : Nat → Addr} {N : Nat} {B : Hp} : ∀ {v : V} {d : D}, Dat K ι N B v d → d.fit = true
  | _, _, .non => rfl
  | _, _, .bl b => rfl
  | _, _, .int i => rfl
  | _, _, .str x h => decide_eq_true h
  | _, _, .ty n => rfl
  | _, _, .ref a => rfl
  | _, _, .tup q l t => by simp only [D.fit, decide_eq_true l, Dats.fits t, Bool.and_self]
  | _, _, .lst q l t => by simp only [D.fit, decide_eq_true l, Dats.fits t, Bool.and_self]
  | _, _, .fl q l t => by simp only [D.fit, decide_eq_true l, Dats.fits t, Bool.and_self]
  | _, _, .dk q _ l t => by simp only [D.fit, decide_eq_true l, Dats.fits t, Bool.and_self]
  | _, _, .dt q _ l t => by simp only [D.fit, decide_eq_true l, Dats.fits t, Bool.and_self]
  | _, _, .ins q l t => Dats.fits t
  | _, _, .ob n h => rfl
theorem Dats.fits {K : Frag} {ι : Nat → Addr} {N : Nat} {B : Hp} : ∀ {vs : List V} {ds : List D}, Dats K ι N B vs ds → D.fitAll ds = true
  | _, _, .nil => rfl
  | _, _, .cons h t => by simp only [D.fitAll, Dat.fits h, Dats.fits t, Bool.and_self]
end
def SCl (S : List MO) : Prop := ∀ (n : Nat) (o : MO), S[n]? = some o → o.cl S.length = true
/-- r is r', but for what nobody holds any more -/
inductive Le (n : Nat) : Res D → Res D → Prop
  | bad {r : Res D} : Le n .bad r
  | refl {r : Res D} : Le n r r
  | drop {d : D} {S g : List MO} : n ≤ S.length → d.cl S.length = true → SCl S → Le n (.ok d S) (.ok d (S ++ g))
  | dropX {C : Value} {ns : List Str} {ds : List D} {S g : List MO} : n ≤ S.length → D.clAll S.length ds = true → SCl S → Le n (.exc C (some (ns, ds)) S) (.exc C (some (ns, ds)) (S ++ g))
  | dropN {C : Value} {S g : List MO} : n ≤ S.length → SCl S → Le n (.exc C none S) (.exc C none (S ++ g))
  | settle {xs : List D} {S g : List MO} : n ≤ S.length → D.clAll S.length xs = true → SCl S → xs.length ≤ sizeLine → Le n (.ok (.lst xs) S) (.ok (.ob S.length) (S ++ .ml xs :: g))
theorem Wd.shrink {K : Frag} {w w' : Wr} {S g : List MO} (hS : w'.S = S ++ g) (x : Ex w w') (d : Wd K w') (hn : w.S.length ≤ S.length) (c : SCl S) : Wd K { w' with S := S } ∧ Ex w { w' with S := S } := by
  have hl : S.length ≤ w'.S.length := by rw [hS, List.length_append]; omega
  refine ⟨⟨d.fz, fun n hn' => d.sp n (Nat.lt_of_lt_of_le hn' hl), fun n o h => ?_, fun n m h1 h2 => d.inj n m (Nat.lt_of_lt_of_le h1 hl) (Nat.lt_of_lt_of_le h2 hl)⟩, ⟨hn, x.io, x.fz, x.nw, fun n h1 h2 => x.ni n h1 (Nat.lt_of_lt_of_le h2 hl), x.kp⟩⟩
  have h : S[n]? = some o := h
  have hnS : n < S.length := (List.getElem?_eq_some_iff.mp h).1
  have q := d.ob n o (by rw [hS, List.getElem?_append_left hnS]; exact h)
  have cc := c n o h
  cases o with
  | ml xs => obtain ⟨vs, e, t⟩ := q; exact ⟨vs, e, Dats.cl t cc⟩
  | mk _ _ => obtain ⟨vs, e, l, t⟩ := q; exact ⟨vs, e, l, Dats.cl t cc⟩
  | mt _ _ => obtain ⟨vs, e, l, t⟩ := q; exact ⟨vs, e, l, Dats.cl t cc⟩
  | mi _ _ _ => obtain ⟨dx, vs, e, l, t⟩ := q; exact ⟨dx, vs, e, l, Dats.cl t cc⟩
theorem Pst.le {K : Frag} {W : XK} {w : Wr} {r r' : Res D} {Q : VK} (h : Pst K W w r (kE K Q)) (l : Le w.S.length r r') : Pst K W w r' (kE K Q) := by
  cases l with
  | bad => exact h.elim
  | refl => exact h
  | drop hn c cs =>
    intro w' hS x d v hv
    obtain ⟨d2, x2⟩ := Wd.shrink hS x d hn cs
    exact h _ rfl x2 d2 v (Dat.cl hv c)
  | dropX hn c cs =>
    rename_i C ns ds S g
    intro w' dd hS x d q
    obtain ⟨d2, x2⟩ := Wd.shrink hS x d hn cs
    obtain ⟨a, vs, e1, e2, l, t⟩ := q
    exact h { w' with S := S } dd rfl x2 d2 ⟨a, vs, e1, e2, l, Dats.cl t c⟩
  | dropN hn cs =>
    rename_i C S g
    intro w' dd hS x d q
    obtain ⟨d2, x2⟩ := Wd.shrink hS x d hn cs
    exact h { w' with S := S } dd rfl x2 d2 q
  | settle hn c cs hz =>
    rename_i xs S g
    intro w' hS x d v hv
    have hlt : S.length < w'.S.length := by rw [hS, List.length_append, List.length_cons]; omega
    have hS' : w'.S = S ++ (.ml xs :: g) := hS
    obtain ⟨vs, e, t⟩ := d.ob S.length (.ml xs) (by rw [hS', List.getElem?_append_right (Nat.le_refl _), Nat.sub_self]; rfl)
    obtain ⟨d2, x2⟩ := Wd.shrink hS' x d hn cs
    cases hv
    have hB : w'.B (w'.ι S.length) = none := d.sp _ hlt
    have ne : ∀ n, n < S.length → w'.ι n ≠ w'.ι S.length := fun n h1 z => by
      have := d.inj n S.length (Nat.lt_trans h1 hlt) hlt z
      omega
    have up : ∀ a o, w'.B a = some o → upd w'.B (w'.ι S.length) (.lst vs) a = some o := fun a o q => by
      rw [upd_ne (fun z => by rw [z, hB] at q; cases q)]; exact q
    refine h { ι := w'.ι, B := upd w'.B (w'.ι S.length) (.lst vs), S := S, H := w'.H } rfl ⟨x2.le, x2.io, fun a o q => up a o (x2.fz a o q), fun a o q => ?_, x2.ni, x2.kp⟩ ⟨fun a o q => ?_, fun n hn' => ?_, fun n o q => ?_, d2.inj⟩ _ ?_
    · have q : upd w'.B (w'.ι S.length) (.lst vs) a = some o := q
      by_cases z : a = w'.ι S.length
      · subst z; exact .inr (x.ni _ hn hlt)
      · rw [upd_ne z] at q; exact x2.nw a o q
    · have q : upd w'.B (w'.ι S.length) (.lst vs) a = some o := q
      by_cases z : a = w'.ι S.length
      · subst z; rw [upd_same] at q; cases q; exact e
      · rw [upd_ne z] at q; exact d2.fz a o q
    · show upd w'.B (w'.ι S.length) (.lst vs) (w'.ι n) = none
      rw [upd_ne (ne n hn')]
      exact d2.sp n hn'
    · have mv : ∀ {us : List V} {ds : List D}, Dts K { w' with S := S } us ds → Dts K { ι := w'.ι, B := upd w'.B (w'.ι S.length) (.lst vs), S := S, H := w'.H } us ds := fun t => Dats.mono (Nat.le_refl _) (fun _ _ => rfl) up t
      have q2 := d2.ob n o q
      cases o with
      | ml _ => obtain ⟨us, e, t⟩ := q2; exact ⟨us, e, mv t⟩
      | mk _ _ => obtain ⟨us, e, l, t⟩ := q2; exact ⟨us, e, l, mv t⟩
      | mt _ _ => obtain ⟨us, e, l, t⟩ := q2; exact ⟨us, e, l, mv t⟩
      | mi _ _ _ => obtain ⟨dx, us, e, l, t⟩ := q2; exact ⟨dx, us, e, l, mv t⟩
    · exact .lst (by show upd w'.B (w'.ι S.length) (.lst vs) (w'.ι S.length) = _; exact upd_same) hz (Dats.mono (Nat.le_refl _) (fun _ _ => rfl) up (Dats.cl t c))

/-- what a def promises: called with n data it is worth F -/
def spM (K : Frag) (n : Nat) (F : List D → M D) : Sp := fun vs H Q E => ∃ w ds, w.H = H ∧ Wd K w ∧ Dts K w vs ds ∧ ds.length = n ∧ Pst K E w (F ds w.S) (kE K Q)
def retF : Fl → M D
  | .rt d => pure d
  | .nx _ => pure .non
  | _ => bad
/-- the slots at a def's entry -/
def rho0 (n : Nat) (ds : List D) : Rho := ds.map some ++ List.replicate (n - ds.length) none
theorem Lo.start {K : Frag} {w : Wr} {N : List Str} {vs : List V} {ds : List D} (t : Dts K w vs ds) : Lo K w (L2.start N vs) (rho0 N.length ds) := by
  have hl := t.length
  refine ⟨by simp [L2.start, rho0, hl], fun i d h => ?_⟩
  unfold rho0 at h
  by_cases hi : i < ds.length
  · rw [List.getElem?_append_left (by simpa using hi), List.getElem?_map] at h
    cases e : ds[i]? with
    | none => rw [e] at h; cases h
    | some d' =>
      rw [e] at h
      cases h
      obtain ⟨v, e1, r⟩ := t.get e
      refine ⟨v, ?_, r⟩
      unfold L2.start
      rw [List.getElem?_append_left (by simpa [hl] using hi), List.getElem?_map, e1]
      rfl
  · rw [List.getElem?_append_right (by simpa using Nat.not_lt.mp hi), List.getElem?_replicate] at h
    split at h <;> cases h
section
variable {P : Program} {w : World} {K : Frag} {mg : Str → Option Value} {base : Heap}
/-- THE RULE for a def -/
theorem def_ok {x qual : Str} {st : Stmt} {f : Addr} {fd : FuncData} {N ps : List Str} {k : Nat} {m : Rho → M Fl} {Fm : List D → M D} (F : Fun K x qual st f fd) (S : FnScope N ps (defScope st))
    (hbody : ∀ (cdv : Value) (A : Around) (outer : List Env) (s : Shared) (H : Hp) (E : XK), Room k (A.deeper (envOfC qual (defScope st) s.heap.objs.size f cdv)) →
      PDSs (cxOf (L2.CX P w) P w K mg base N qual (defScope st) f cdv A outer s H E) (fun c d _ H => E c d H) (defBody st) m)
    (hF : ∀ (ds : List D) (S : List MO), ds.length = ps.length → D.clAll S.length ds = true → D.fitAll ds = true → SCl S → Le S.length (Fm ds S) ((m (rho0 N.length ds) >>= retF) S)) : FnOk P w K mg base (L2.CX P w) (k + 1) f fd ps (spM K ps.length Fm) := by
  refine F.okX S (fun vs H Q E h => ?_) fun cdv A outer s H vs Q E hr h => ⟨_, hbody cdv A outer s H E hr, ?_⟩
  · obtain ⟨w, ds, _, _, t, hl, _⟩ := h
    rw [t.length, hl]
  · obtain ⟨w1, ds, rfl, d1, t, hl, h⟩ := h
    have h2 := Pst.le h (hF ds w1.S hl t.closed t.fits fun n o e => d1.closed e)
    refine ⟨w1, rho0 N.length ds, ⟨rfl, d1, Lo.start t⟩, ?_⟩
    show Pst K E w1 _ _
    refine (Pst.bind h2).mono fun fl w2 e2 d2 h3 => ?_
    cases fl with
    | rt d => exact h3 w2 rfl (Ex.refl _) d2
    | nx ρ => exact fun σ l => h3 w2 rfl (Ex.refl _) d2 _ .non
    | bk ρ => exact h3.elim
    | ct ρ => exact h3.elim
/-- a promise said otherwise -/
theorem def_imp {f : Addr} {fd : FuncData} {ps : List Str} {k n : Nat} {F G : List D → M D} (h : FnOk P w K mg base (L2.CX P w) k f fd ps (spM K n F))
    (i : ∀ (ds : List D) (S : List MO), ds.length = n → Le S.length (G ds S) (F ds S)) : FnOk P w K mg base (L2.CX P w) k f fd ps (spM K n G) :=
  h.imp fun vs H Q E ⟨w1, ds, e, d, t, hl, q⟩ => ⟨w1, ds, e, d, t, hl, Pst.le q (i ds w1.S hl)⟩
end
/-! ### calls of defs -/
section
variable {X : Cx} {W : WX} {e : Expr} {es : List Expr} {ms : Rho → M (List D)} {F : List D → M D} {p pos : Pos} {k n : Nat} {f : Addr} {fd : FuncData} {ps : List Str} {x : Str}
def fnM (n : Nat) (F : List D → M D) (ms : Rho → M (List D)) : Rho → M D := fun ρ => ms ρ >>= fun xs => if xs.length = n then F xs else bad
theorem pd_call (G : FnOk X.prog X.w X.K X.mg X.base (L2.CX X.prog X.w) k f fd ps (spM X.K n F)) (hr : Room k X.A) (tk : Takes X W) (hg : Gl X x) (hm : X.mg x = some (.ref f)) (hk : PySem.W.keepIn X.K (.ref f) = true) (hb : Binds X.K fd ps [])
    (ha : PDA X W (e :: es) ms) (hdb : (x == ("__debug__" : Str)) = false := by decide) (he : starEach (e :: es) X.env = (false, eval e X.env) :: starEach es X.env := by rfl) (hpl : (backTo pos (starEach es X.env)).any (·.1) = false := by rfl) :
    PDE X W (.Call (.Name x p) (e :: es) [] pos) (fnM n F ms) := PE.imp (pe_callS G hr hg hm hk hb (passAt tk) ha hdb he hpl) fun σ H Q ⟨w, ρ, a, h⟩ =>
  tA_bind (f := fun ρ xs => if xs.length = n then F xs else bad) a h fun ds vs w1 e1 a1 hv h1 => by
    by_cases hl : ds.length = n
    · rw [if_pos hl] at h1
      exact ⟨w1, ds, rfl, a1.2.1, hv, hl, h1⟩
    · rw [if_neg hl] at h1; exact h1.elim
end
end PD

set_option Elab.async false
set_option linter.all false
set_option maxRecDepth 100000
namespace PD
open PySem PySem.Spec PyProof.Rows L2
theorem Dat.int_of {K : Frag} {ι : Nat → Addr} {N : Nat} {B : Hp} {v : V} {i : Int} (h : Dat K ι N B v (.int i)) : v = .int i := by cases h; rfl
theorem Dat.str_of {K : Frag} {ι : Nat → Addr} {N : Nat} {B : Hp} {v : V} {i : Str} (h : Dat K ι N B v (.str i)) : v = .str i ∧ i.length ≤ sizeLine := by cases h; exact ⟨rfl, by assumption⟩
theorem Dat.tup_of {K : Frag} {ι : Nat → Addr} {N : Nat} {B : Hp} {v : V} {xs : List D} (h : Dat K ι N B v (.tup xs)) : ∃ a vs, v = .ref a ∧ SqT K B a vs ∧ Dats K ι N B vs xs := by cases h; exact ⟨_, _, rfl, by assumption, by assumption⟩
theorem Dat.tup_le {K : Frag} {ι : Nat → Addr} {N : Nat} {B : Hp} {v : V} {xs : List D} (h : Dat K ι N B v (.tup xs)) : xs.length ≤ sizeLine := by cases h; assumption
theorem Dat.non_of {K : Frag} {ι : Nat → Addr} {N : Nat} {B : Hp} {v : V} (h : Dat K ι N B v .non) : v = .non := by cases h; rfl
theorem Dat.ty_of {K : Frag} {ι : Nat → Addr} {N : Nat} {B : Hp} {v : V} {T : String} (h : Dat K ι N B v (.ty T)) : v = .ty T := by cases h; rfl
theorem Dat.ref_of {K : Frag} {ι : Nat → Addr} {N : Nat} {B : Hp} {v : V} {a : Addr} (h : Dat K ι N B v (.ref a)) : v = .ref a := by cases h; rfl
/-- a list that stands in the heap by itself -/
def lstOf (S : List MO) : D → Option (List D)
  | .lst xs => some xs
  | .ob n => match S[n]? with
    | some (.ml xs) => some xs
    | _ => none
  | _ => none
theorem lstOf_ok {K : Frag} {w : Wr} (d : Wd K w) {v : V} {x : D} {xs : List D} (h : Dt K w v x) (e : lstOf w.S x = some xs) : ∃ a vs, v = .ref a ∧ w.H a = some (.lst vs) ∧ Dts K w vs xs := by
  cases h with
  | lst q _ t => cases e; exact ⟨_, _, rfl, d.fz _ _ q, t⟩
  | ob n hn =>
    simp only [lstOf] at e
    cases q : w.S[n]? with
    | none => rw [q] at e; cases e
    | some o =>
      rw [q] at e
      cases o with
      | ml ys =>
        cases e
        obtain ⟨vs, e1, t⟩ := d.ob n _ q
        exact ⟨_, vs, rfl, e1, t⟩
      | _ => cases e
  | _ => cases e
section
variable {X : Cx}
/-- ints to a datum -/
def onI (p : Int → Int → Bool) (f : Int → Int → D) : List MO → D → D → Option D := fun _ x y => match x, y with
  | .int i, .int j => if p i j = true then some (f i j) else none
  | _, _ => none
theorem onI_some {p : Int → Int → Bool} {f : Int → Int → D} {S : List MO} {x y d : D} (h : onI p f S x y = some d) : ∃ i j, x = .int i ∧ y = .int j ∧ p i j = true ∧ d = f i j := by
  unfold onI at h
  split at h
  · split at h
    · cases h; exact ⟨_, _, rfl, rfl, by assumption, rfl⟩
    · cases h
  · cases h
theorem opI_ok {f : Value → Value → Sem Value} {p : Int → Int → Bool} {g : Int → Int → V} {gd : Int → Int → D} {C : Int → Int → Prop} (h : OpR X f (rI C g)) (hp : ∀ i j, p i j = true → C i j) (hg : ∀ (w : Wr) i j, Dt X.K w (g i j) (gd i j)) :
    OpR X f (opM X.K (onI p gd)) := OpR.imp h fun x y H Q ⟨w, dx, dy, d, e, wd, hx, hy, q, k⟩ => by
  obtain ⟨i, j, rfl, rfl, c, rfl⟩ := onI_some q
  subst e
  exact ⟨i, j, hx.int_of, hy.int_of, hp _ _ c, k w _ rfl (Ex.refl _) wd (hg w i j)⟩
theorem opI0_ok {f : Value → Value → Sem Value} {g : Int → Int → V} {gd : Int → Int → D} (h : OpR X f (rI0 g)) (hg : ∀ (w : Wr) i j, Dt X.K w (g i j) (gd i j)) :
    OpR X f (opM X.K (onI (fun _ _ => true) gd)) := OpR.imp h fun x y H Q ⟨w, dx, dy, d, e, wd, hx, hy, q, k⟩ => by
  obtain ⟨i, j, rfl, rfl, c, rfl⟩ := onI_some q
  subst e
  exact ⟨i, j, hx.int_of, hy.int_of, k w _ rfl (Ex.refl _) wd (hg w i j)⟩
abbrev aT : Int → Int → Bool := fun _ _ => true
abbrev subD := onI aT fun i j => .int (i - j)
theorem o_sub : OpR X (binaryOp .Sub) (opM X.K subD) := opI0_ok op_sub fun w i j => .int _
abbrev modD := onI (fun _ j => decide (0 < j)) fun i j => .int (i % j)
theorem o_mod : OpR X (binaryOp .Mod) (opM X.K modD) := opI_ok op_mod (fun _ _ h => of_decide_eq_true h) fun w i j => .int _
abbrev fdivD := onI (fun _ j => decide (0 < j ∧ j < 1073741824)) fun i j => .int (i / j)
theorem o_fdiv : OpR X (binaryOp .FloorDiv) (opM X.K fdivD) := opI_ok op_fdiv (fun i j h => show CDiv i j from of_decide_eq_true (p := 0 < j ∧ j < 1073741824) h) fun w i j => .int _
abbrev powD := onI (fun i j => decide (0 ≤ j ∧ j ≤ 1000000 ∧ i.natAbs < 2 ^ 64)) fun i j => .int (i ^ j.toNat)
theorem o_pow : OpR X (binaryOp .Pow) (opM X.K powD) := opI_ok op_pow (fun i j h => show CPow i j from of_decide_eq_true (p := 0 ≤ j ∧ j ≤ 1000000 ∧ i.natAbs < 2 ^ 64) h) fun w i j => .int _
/-- + -/
def addD (S : List MO) (x y : D) : Option D := match x, y with
  | .int i, .int j => some (.int (i + j))
  | .str a, .str b => if a.length + b.length ≤ sizeLine then some (.str (a ++ b)) else none
  | .tup xs, .tup ys => if xs.length + ys.length ≤ sizeLine then some (.tup (xs ++ ys)) else none
  | x, y => match lstOf S x, lstOf S y with
    | some xs, some ys => if xs.length + ys.length ≤ sizeLine then some (.lst (xs ++ ys)) else none
    | _, _ => none
theorem str_len_app (a b : Str) : (a ++ b).length = a.length + b.length := by
  show (a.cps ++ b.cps).size = a.cps.size + b.cps.size
  exact Array.size_append
theorem o_add : OpR X (binaryOp .Add) (opM X.K addD) := by
  intro pins s σ H x y v u Q I rx ry ⟨w, dx, dy, d, e, wd, hx, hy, q, k⟩
  subst e
  unfold addD at q
  split at q
  · cases q
    exact op_add pins s σ _ x y v u Q I rx ry ⟨_, _, hx.int_of, hy.int_of, k w _ rfl (Ex.refl _) wd (.int _)⟩
  · split at q
    · rename_i hl
      cases q
      exact op_add_str pins s σ _ x y v u Q I rx ry ⟨_, _, hx.str_of.1, hy.str_of.1, hl, k w _ rfl (Ex.refl _) wd (.str _ (by rw [str_len_app]; exact hl))⟩
    · cases q
  · split at q
    · rename_i xs ys hl
      cases q
      obtain ⟨a, vs, rfl, qa, ta⟩ := hx.tup_of
      obtain ⟨b, us, rfl, qb, tb⟩ := hy.tup_of
      refine op_catA pins s σ _ _ _ v u Q I rx ry ⟨a, b, vs, us, rfl, rfl, SqT.same wd.fz qa, SqT.same wd.fz qb, by rw [ta.length, tb.length]; exact hl, fun z => ?_, fun _ z => ?_, fun _ _ p hp => ?_⟩
      · subst z
        cases ta
        exact k w _ rfl (Ex.refl _) wd hy
      · subst z
        cases tb
        rw [List.append_nil] at k
        exact k w _ rfl (Ex.refl _) wd hx
      · obtain ⟨w2, hS, hH, x2, d2, t2⟩ := new_tup wd hp (ta.append tb) (by rw [List.length_append]; exact hl)
        have := k w2 _ hS x2 d2 t2
        rw [hH] at this
        exact this
    · cases q
  · split at q
    · rename_i xs ys e1 e2
      split at q
      · rename_i hl
        cases q
        obtain ⟨a, vs, rfl, qa, ta⟩ := lstOf_ok wd hx e1
        obtain ⟨b, us, rfl, qb, tb⟩ := lstOf_ok wd hy e2
        refine op_cat pins s σ _ _ _ v u Q I rx ry ⟨a, b, vs, us, rfl, rfl, qa, qb, by rw [ta.length, tb.length]; exact hl, fun p hp => ?_⟩
        obtain ⟨w2, hS, hH, x2, d2, t2⟩ := new_lst wd hp (ta.append tb) (by rw [List.length_append]; exact hl)
        have := k w2 _ hS x2 d2 t2
        rw [hH] at this
        exact this
      · cases q
    · cases q
/-! ### comparisons -/
abbrev cmpI (f : Int → Int → Bool) := onI aT fun i j => .bl (f i j)
/-- < and its kin: ints, texts -/
def ltD (_ : List MO) (x y : D) : Option D := match x, y with
  | .int i, .int j => some (.bl (decide (i < j)))
  | .str a, .str b => some (.bl (decide (a.cps.toList < b.cps.toList)))
  | _, _ => none
def leD (_ : List MO) (x y : D) : Option D := match x, y with
  | .int i, .int j => some (.bl (decide (i ≤ j)))
  | .str a, .str b => some (.bl (!decide (b.cps.toList < a.cps.toList)))
  | _, _ => none
def gtD (_ : List MO) (x y : D) : Option D := match x, y with
  | .int i, .int j => some (.bl (decide (j < i)))
  | .str a, .str b => some (.bl (decide (b.cps.toList < a.cps.toList)))
  | _, _ => none
def geD (_ : List MO) (x y : D) : Option D := match x, y with
  | .int i, .int j => some (.bl (decide (j ≤ i)))
  | .str a, .str b => some (.bl (!decide (a.cps.toList < b.cps.toList)))
  | _, _ => none
theorem opS2 {f : Value → Value → Sem Value} {g : Str → Str → Bool} (rule : ∀ {prog : Program} {w : World} {A : Around} {E : Value → Shared → Prop} {s : Shared} {x y : Str} {t u : Tok} {Q : Value → Shared → Prop}, Q (.bool (g x y)) s → wpAny (model prog w) A (f (.str x t) (.str y u)) Q E s) :
    OpR X f (fun x y H Q => ∃ i j, x = .str i ∧ y = .str j ∧ Q (.bl (g i j)) H) := by
  intro pins s σ H x y v u Q I rx ry ⟨i, j, e1, e2, q⟩
  subst e1; subst e2
  obtain ⟨t, rfl⟩ := rx
  obtain ⟨t', rfl⟩ := ry
  exact rule ⟨.bl _, H, I, rfl, q⟩
theorem o_lt : OpR X (compareOp .Lt) (opM X.K ltD) := by
  intro pins s σ H x y v u Q I rx ry ⟨w, dx, dy, d, e, wd, hx, hy, q, k⟩
  subst e
  unfold ltD at q
  split at q
  · cases q; exact op_lt pins s σ _ x y v u Q I rx ry ⟨_, _, hx.int_of, hy.int_of, k w _ rfl (Ex.refl _) wd (.bl _)⟩
  · cases q; exact op_lt_str pins s σ _ x y v u Q I rx ry ⟨_, _, hx.str_of.1, hy.str_of.1, k w _ rfl (Ex.refl _) wd (.bl _)⟩
  · cases q
theorem o_le : OpR X (compareOp .LtE) (opM X.K leD) := by
  intro pins s σ H x y v u Q I rx ry ⟨w, dx, dy, d, e, wd, hx, hy, q, k⟩
  subst e
  unfold leD at q
  split at q
  · cases q; exact op_le pins s σ _ x y v u Q I rx ry ⟨_, _, hx.int_of, hy.int_of, k w _ rfl (Ex.refl _) wd (.bl _)⟩
  · cases q; exact opS2 (g := fun a b => !decide (b.cps.toList < a.cps.toList)) (fun h => PySem.P.le_str h) pins s σ _ x y v u Q I rx ry ⟨_, _, hx.str_of.1, hy.str_of.1, k w _ rfl (Ex.refl _) wd (.bl _)⟩
  · cases q
theorem o_gt : OpR X (compareOp .Gt) (opM X.K gtD) := by
  intro pins s σ H x y v u Q I rx ry ⟨w, dx, dy, d, e, wd, hx, hy, q, k⟩
  subst e
  unfold gtD at q
  split at q
  · cases q; exact op_gt pins s σ _ x y v u Q I rx ry ⟨_, _, hx.int_of, hy.int_of, k w _ rfl (Ex.refl _) wd (.bl _)⟩
  · cases q; exact opS2 (g := fun a b => decide (b.cps.toList < a.cps.toList)) (fun h => PySem.P.gt_str h) pins s σ _ x y v u Q I rx ry ⟨_, _, hx.str_of.1, hy.str_of.1, k w _ rfl (Ex.refl _) wd (.bl _)⟩
  · cases q
theorem o_ge : OpR X (compareOp .GtE) (opM X.K geD) := by
  intro pins s σ H x y v u Q I rx ry ⟨w, dx, dy, d, e, wd, hx, hy, q, k⟩
  subst e
  unfold geD at q
  split at q
  · cases q; exact op_ge pins s σ _ x y v u Q I rx ry ⟨_, _, hx.int_of, hy.int_of, k w _ rfl (Ex.refl _) wd (.bl _)⟩
  · cases q; exact opS2 (g := fun a b => !decide (a.cps.toList < b.cps.toList)) (fun h => PySem.P.ge_str h) pins s σ _ x y v u Q I rx ry ⟨_, _, hx.str_of.1, hy.str_of.1, k w _ rfl (Ex.refl _) wd (.bl _)⟩
  · cases q
end
/-! == of data -/
mutual
/-- data through and through, at most n deep -/
def D.data : Nat → D → Bool
  | _, .non => true
  | _, .bl _ => true
  | _, .int _ => true
  | _, .str _ => true
  | n + 1, .tup xs => D.dataAll n xs
  | n + 1, .lst xs => D.dataAll n xs
  | n + 1, .fl xs => D.dataAll n xs
  | _, _ => false
def D.dataAll : Nat → List D → Bool
  | _, [] => true
  | n, d :: ds => D.data n d && D.dataAll n ds
end
mutual
/-- == of data -/
def eqG : D → D → Bool
  | .non, .non => true
  | .bl a, .bl b => a == b
  | .bl a, .int j => (if a then 1 else 0) == j
  | .int i, .bl b => i == (if b then 1 else 0)
  | .int i, .int j => i == j
  | .str x, .str y => x == y
  | .tup xs, .tup ys => eqGs xs ys
  | .lst xs, .lst ys => eqGs xs ys
  | .lst xs, .fl ys => eqGs xs ys
  | .fl xs, .lst ys => eqGs xs ys
  | .fl xs, .fl ys => eqGs xs ys
  | _, _ => false
def eqGs : List D → List D → Bool
  | [], [] => true
  | x :: xs, y :: ys => eqG x y && eqGs xs ys
  | _, _ => false
end
/-- what is read as a datum -/
inductive RdvS (K : Frag) (H : Hp) (R : V → D → Prop) : V → D → Prop
  | non : RdvS K H R .non .non
  | bl (b : Bool) : RdvS K H R (.bl b) (.bl b)
  | int (i : Int) : RdvS K H R (.int i) (.int i)
  | str (x : Str) : RdvS K H R (.str x) (.str x)
mutual
inductive Rdv (K : Frag) (H : Hp) : V → D → Prop
  | non : Rdv K H .non .non
  | bl (b : Bool) : Rdv K H (.bl b) (.bl b)
  | int (i : Int) : Rdv K H (.int i) (.int i)
  | str (x : Str) : Rdv K H (.str x) (.str x)
  | tup {a : Addr} {vs : List V} {ds : List D} : SqT K H a vs → Rdvs K H vs ds → Rdv K H (.ref a) (.tup ds)
  | lst {a : Addr} {vs : List V} {ds : List D} : SqL K H a vs → Rdvs K H vs ds → Rdv K H (.ref a) (.lst ds)
  | fl {a : Addr} {vs : List V} {ds : List D} : SqL K H a vs → Rdvs K H vs ds → Rdv K H (.ref a) (.fl ds)
inductive Rdvs (K : Frag) (H : Hp) : List V → List D → Prop
  | nil : Rdvs K H [] []
  | cons {v : V} {vs : List V} {d : D} {ds : List D} : Rdv K H v d → Rdvs K H vs ds → Rdvs K H (v :: vs) (d :: ds)
end
theorem Rdvs.length {K : Frag} {H : Hp} : ∀ {vs : List V} {ds : List D}, Rdvs K H vs ds → vs.length = ds.length
  | _, _, .nil => rfl
  | _, _, .cons _ t => congrArg (· + 1) (Rdvs.length t)
mutual
theorem Dat.rdv {K : Frag} {ι : Nat → Addr} {N : Nat} {B H : Hp} (fz : ∀ a o, B a = some o → H a = some o) : ∀ {n : Nat} (d : D) {v : V}, Dat K ι N B v d → D.data n d = true → Rdv K H v d
  | _, .non, _, h, _ => by cases h; exact .non
  | _, .bl b, _, h, _ => by cases h; exact .bl b
  | _, .int i, _, h, _ => by cases h; exact .int i
  | _, .str x, _, h, _ => by cases h; exact .str x
  | n + 1, .tup xs, _, h, e => by
    cases h with
    | tup q _ t => exact .tup (SqT.same fz q) (Dats.rdv fz xs t (by simpa [D.data] using e))
  | n + 1, .lst xs, _, h, e => by
    cases h with
    | lst q _ t => exact .lst (SqL.of (fz _ _ q)) (Dats.rdv fz xs t (by simpa [D.data] using e))
  | n + 1, .fl xs, _, h, e => by
    cases h with
    | fl q _ t => exact .fl (SqL.same fz q) (Dats.rdv fz xs t (by simpa [D.data] using e))
  | 0, .tup _, _, _, e => by simp [D.data] at e
  | 0, .lst _, _, _, e => by simp [D.data] at e
  | 0, .fl _, _, _, e => by simp [D.data] at e
  | _, .ty _, _, _, e => by simp [D.data] at e
  | _, .ref _, _, _, e => by simp [D.data] at e
  | _, .dk _ _, _, _, e => by simp [D.data] at e
  | _, .dt _ _, _, _, e => by simp [D.data] at e
  | _, .ins _ _ _, _, _, e => by simp [D.data] at e
  | _, .ob _, _, _, e => by simp [D.data] at e
theorem Dats.rdv {K : Frag} {ι : Nat → Addr} {N : Nat} {B H : Hp} (fz : ∀ a o, B a = some o → H a = some o) : ∀ {n : Nat} (ds : List D) {vs : List V}, Dats K ι N B vs ds → D.dataAll n ds = true → Rdvs K H vs ds
  | _, [], _, h, _ => by cases h; exact .nil
  | n, d :: ds, _, h, e => by
    cases h with
    | cons h1 h2 =>
      simp only [D.dataAll, Bool.and_eq_true] at e
      exact .cons (Dat.rdv fz d h1 e.1) (Dats.rdv fz ds h2 e.2)
end
theorem eqGs_range : ∀ xs ys : List D, ((List.range (min xs.length ys.length)).all (fun j => eqG (xs.getD j .non) (ys.getD j .non)) && xs.length == ys.length) = eqGs xs ys
  | [], [] => rfl
  | [], y :: ys => by simp [eqGs]
  | x :: xs, [] => by simp [eqGs]
  | x :: xs, y :: ys => by
    have ih := eqGs_range xs ys
    have e1 : min (x :: xs).length (y :: ys).length = min xs.length ys.length + 1 := by simp only [List.length_cons]; omega
    rw [e1, List.range_succ_eq_map, List.all_cons, List.all_map]
    show (eqG x y && _ && _) = (eqG x y && eqGs xs ys)
    rw [← ih, Bool.and_assoc]
    congr 2
    simp
theorem eqGs_len {xs ys : List D} (h : xs.length ≠ ys.length) : eqGs xs ys = false := by
  rw [← eqGs_range, beq_eq_false_iff_ne.mpr h, Bool.and_false]
section
variable {X : Cx} {pins : List (Addr × Obj)} {σ : L2.St} {H : Hp} {s : Shared}
mutual
/-- one value, two data -/
theorem Rdv.same (I : Inv X pins σ H s) : ∀ (d e : D) {v : V}, Rdv X.K H v d → Rdv X.K H v e → eqG d e = true
  | .non, _, _, h, g => by cases h; cases g; rfl
  | .bl b, _, _, h, g => by cases h; cases g; simp [eqG]
  | .int b, _, _, h, g => by cases h; cases g; simp [eqG]
  | .str b, _, _, h, g => by cases h; cases g; simp [eqG]
  | .tup xs, _, _, h, g => by
    cases h with
    | tup q t =>
      cases g with
      | tup q2 t2 =>
        obtain rfl := I.tuple_inj q q2
        show eqGs _ _ = true
        exact Rdvs.same I xs _ t t2
      | lst q2 t2 =>
        obtain ⟨_, _, p1, _⟩ := I.tuple q
        obtain ⟨_, _, p2, _⟩ := I.list q2
        exact absurd rfl (SeqAt.ne_of_list_tuple p2.isList p1)
      | fl q2 t2 =>
        obtain ⟨_, _, p1, _⟩ := I.tuple q
        obtain ⟨_, _, p2, _⟩ := I.list q2
        exact absurd rfl (SeqAt.ne_of_list_tuple p2.isList p1)
  | .lst xs, _, _, h, g => by
    cases h with
    | lst q t =>
      cases g with
      | tup q2 t2 =>
        obtain ⟨_, _, p1, _⟩ := I.tuple q2
        obtain ⟨_, _, p2, _⟩ := I.list q
        exact absurd rfl (SeqAt.ne_of_list_tuple p2.isList p1)
      | lst q2 t2 =>
        obtain rfl := I.list_inj q q2
        show eqGs _ _ = true
        exact Rdvs.same I xs _ t t2
      | fl q2 t2 =>
        obtain rfl := I.list_inj q q2
        show eqGs _ _ = true
        exact Rdvs.same I xs _ t t2
  | .fl xs, _, _, h, g => by
    cases h with
    | fl q t =>
      cases g with
      | tup q2 t2 =>
        obtain ⟨_, _, p1, _⟩ := I.tuple q2
        obtain ⟨_, _, p2, _⟩ := I.list q
        exact absurd rfl (SeqAt.ne_of_list_tuple p2.isList p1)
      | lst q2 t2 =>
        obtain rfl := I.list_inj q q2
        show eqGs _ _ = true
        exact Rdvs.same I xs _ t t2
      | fl q2 t2 =>
        obtain rfl := I.list_inj q q2
        show eqGs _ _ = true
        exact Rdvs.same I xs _ t t2
  | .ty _, _, _, h, _ => by cases h
  | .ref _, _, _, h, _ => by cases h
  | .dk _ _, _, _, h, _ => by cases h
  | .dt _ _, _, _, h, _ => by cases h
  | .ins _ _ _, _, _, h, _ => by cases h
  | .ob _, _, _, h, _ => by cases h
theorem Rdvs.same (I : Inv X pins σ H s) : ∀ (ds es : List D) {vs : List V}, Rdvs X.K H vs ds → Rdvs X.K H vs es → eqGs ds es = true
  | [], _, _, h, g => by cases h; cases g; rfl
  | d :: ds, _, _, h, g => by
    cases h with
    | cons h1 h2 =>
      cases g with
      | cons g1 g2 =>
        show (eqG _ _ && eqGs _ _) = true
        rw [Rdv.same I d _ h1 g1, Rdvs.same I ds _ h2 g2]; rfl
end
theorem Rdvs.at {K : Frag} {us : List Value} {P : V → D → Value → Prop} : ∀ {vs : List V} {ds : List D}, Rdvs K H vs ds → Vals vs us → ∀ j (h : j < us.length), ∃ v, Rdv K H v (ds.getD j .non) ∧ RelV v us[j] ∧ ds.getD j .non ∈ ds := by
  intro vs ds t r
  induction r generalizing ds with
  | nil => intro j h; exact absurd h (Nat.not_lt_zero _)
  | @cons x u xs us' r1 r2 ih =>
    cases t with
    | cons h1 h2 =>
      intro j h
      cases j with
      | zero => exact ⟨x, h1, r1, List.mem_cons_self⟩
      | succ j =>
        obtain ⟨v, e1, e2, e3⟩ := ih h2 j (by simpa using h)
        exact ⟨v, e1, e2, List.mem_cons_of_mem _ e3⟩
theorem data_mem {n : Nat} : ∀ {ds : List D} {d : D}, D.dataAll n ds = true → d ∈ ds → D.data n d = true
  | x :: xs, d, h, hm => by
    simp only [D.dataAll, Bool.and_eq_true] at h
    rcases List.mem_cons.mp hm with rfl | hm
    · exact h.1
    · exact data_mem h.2 hm
def D.seq : D → Bool
  | .tup _ => true
  | .lst _ => true
  | .fl _ => true
  | _ => false
theorem rc_scal (I : Inv X pins σ H s) (d e : D) (A : Around) (v u : V) (a b : Value) (hd : d.seq = false) (hu0 : A.units < cLine) (h : Rdv X.K H v d) (g : Rdv X.K H u e) (ra : RelV v a) (rb : RelV u b) : SeqAt.RcAt A s a b (eqG d e) ∧ SeqAt.EqAt A s a b (eqG d e) := by
  cases h with
  | non =>
    cases ra
    cases g with
    | non => cases rb; exact ⟨.none_none, SeqAt.EqAt.same _⟩
    | bl y => cases rb; exact ⟨.none_bool y, .none_bool y⟩
    | int y => obtain ⟨t, rfl⟩ := rb; exact ⟨.none_int y t, .none_int y t⟩
    | str y => obtain ⟨t, rfl⟩ := rb; exact ⟨.none_str y t, .none_str y t⟩
    | tup q t => cases rb; obtain ⟨_, _, p, _⟩ := I.tuple q; exact ⟨.none_tuple p hu0, .none_tuple p hu0⟩
    | lst q t => cases rb; obtain ⟨_, _, p, _⟩ := I.list q; exact ⟨.none_list p.isList hu0, .none_list p.isList hu0⟩
    | fl q t => cases rb; obtain ⟨_, _, p, _⟩ := I.list q; exact ⟨.none_list p.isList hu0, .none_list p.isList hu0⟩
  | bl x =>
    cases ra
    cases g with
    | non => cases rb; exact ⟨.bool_none x, .bool_none x⟩
    | bl y => cases rb; exact ⟨.bool_bool x y, .bool_bool x y⟩
    | int y => obtain ⟨t, rfl⟩ := rb; exact ⟨.bool_int x y t, .bool_int x y t⟩
    | str y => obtain ⟨t, rfl⟩ := rb; exact ⟨.bool_str x y t, .bool_str x y t⟩
    | tup q t => cases rb; obtain ⟨_, _, p, _⟩ := I.tuple q; exact ⟨.bool_tuple x p hu0, .bool_tuple x p hu0⟩
    | lst q t => cases rb; obtain ⟨_, _, p, _⟩ := I.list q; exact ⟨.bool_list x p.isList hu0, .bool_list x p.isList hu0⟩
    | fl q t => cases rb; obtain ⟨_, _, p, _⟩ := I.list q; exact ⟨.bool_list x p.isList hu0, .bool_list x p.isList hu0⟩
  | int x =>
    obtain ⟨tx, rfl⟩ := ra
    cases g with
    | non => cases rb; exact ⟨.int_none x tx, .int_none x tx⟩
    | bl y => cases rb; exact ⟨.int_bool x tx y, .int_bool x tx y⟩
    | int y => obtain ⟨t, rfl⟩ := rb; exact ⟨.int_int x tx y t, .int_int x tx y t⟩
    | str y => obtain ⟨t, rfl⟩ := rb; exact ⟨.int_str x tx y t, .int_str x tx y t⟩
    | tup q t => cases rb; obtain ⟨_, _, p, _⟩ := I.tuple q; exact ⟨.int_tuple x tx p hu0, .int_tuple x tx p hu0⟩
    | lst q t => cases rb; obtain ⟨_, _, p, _⟩ := I.list q; exact ⟨.int_list x tx p.isList hu0, .int_list x tx p.isList hu0⟩
    | fl q t => cases rb; obtain ⟨_, _, p, _⟩ := I.list q; exact ⟨.int_list x tx p.isList hu0, .int_list x tx p.isList hu0⟩
  | str x =>
    obtain ⟨tx, rfl⟩ := ra
    cases g with
    | non => cases rb; exact ⟨.str_none x tx, .str_none x tx⟩
    | bl y => cases rb; exact ⟨.str_bool x tx y, .str_bool x tx y⟩
    | int y => obtain ⟨t, rfl⟩ := rb; exact ⟨.str_int x tx y t, .str_int x tx y t⟩
    | str y => obtain ⟨t, rfl⟩ := rb; exact ⟨.str_str x tx y t, .str_str x tx y t⟩
    | tup q t => cases rb; obtain ⟨_, _, p, _⟩ := I.tuple q; exact ⟨.str_tuple x tx p hu0, .str_tuple x tx p hu0⟩
    | lst q t => cases rb; obtain ⟨_, _, p, _⟩ := I.list q; exact ⟨.str_list x tx p.isList hu0, .str_list x tx p.isList hu0⟩
    | fl q t => cases rb; obtain ⟨_, _, p, _⟩ := I.list q; exact ⟨.str_list x tx p.isList hu0, .str_list x tx p.isList hu0⟩
  | tup q t => simp [D.seq] at hd
  | lst q t => simp [D.seq] at hd
  | fl q t => simp [D.seq] at hd
theorem rc_pair {A : Around} {l b : Addr} {k : Bool} (h : SeqAt.RcAt A s (.ref l) (.ref b) k) (he : l = b → k = true) : SeqAt.RcAt A s (.ref l) (.ref b) k ∧ SeqAt.EqAt A s (.ref l) (.ref b) k := by
  refine ⟨h, ?_⟩
  by_cases e : l = b
  · subst e
    rw [he rfl]
    exact SeqAt.EqAt.same _
  · exact SeqAt.EqAt.of_refs e h
theorem rc_lists (I : Inv X pins σ H s) {A : Around} {l b : Addr} {vs us : List V} {ds es : List D} (hu : A.units < cLine) (q : SqL X.K H l vs) (q2 : SqL X.K H b us) (t : Rdvs X.K H vs ds) (t2 : Rdvs X.K H us es)
    (ih : ∀ (d e : D) (v u : V) (a b : Value), d ∈ ds → Rdv X.K H v d → Rdv X.K H u e → RelV v a → RelV u b → SeqAt.EqAt A.in1 s a b (eqG d e)) : SeqAt.RcAt A s (.ref l) (.ref b) (eqGs ds es) := by
  obtain ⟨its, r1, p1, _⟩ := I.list q
  obtain ⟨its2, r2, p2, _⟩ := I.list q2
  have l1 : its.length = ds.length := r1.length.symm.trans t.length
  have l2 : its2.length = es.length := r2.length.symm.trans t2.length
  by_cases hl : ds.length = es.length
  · have h := SeqAt.RcAt.lists (A := A) (e := fun j => eqG (ds.getD j .non) (es.getD j .non)) p1.isList p2.isList (by rw [List.size_toArray, List.size_toArray]; omega) hu fun j h1 h2 => by
      rw [List.size_toArray] at h1 h2
      obtain ⟨v, e1, e2, e3⟩ := Rdvs.at (P := fun _ _ _ => True) t r1 j h1
      obtain ⟨u, f1, f2, _⟩ := Rdvs.at (P := fun _ _ _ => True) t2 r2 j h2
      exact ih _ _ v u _ _ e3 e1 f1 e2 f2
    have e : (List.range its.toArray.size).all (fun j => eqG (ds.getD j .non) (es.getD j .non)) = eqGs ds es := by
      rw [← eqGs_range, ← hl, Nat.min_self, List.size_toArray, l1, beq_self_eq_true, Bool.and_true]
    rw [e] at h
    exact h
  · rw [eqGs_len hl]
    exact SeqAt.RcAt.lists_lengths p1.isList p2.isList (by rw [List.size_toArray, List.size_toArray, l1, l2]; exact bne_iff_ne.mpr hl) hu
/-- == decides as eqG says -/
theorem rc_eqG (I : Inv X pins σ H s) : ∀ (n : Nat) (d e : D) (A : Around) (v u : V) (a b : Value), D.data n d = true → A.units + n < cLine → Rdv X.K H v d → Rdv X.K H u e → RelV v a → RelV u b → SeqAt.RcAt A s a b (eqG d e) ∧ SeqAt.EqAt A s a b (eqG d e) := by
  intro n
  induction n with
  | zero =>
    intro d e A v u a b hd hu h g ra rb
    refine rc_scal I d e A v u a b ?_ (Nat.lt_of_le_of_lt (Nat.le_add_right _ _) hu) h g ra rb
    cases d <;> first | rfl | (simp [D.data] at hd; done)
  | succ n ih =>
    intro d e A v u a b hd hu h g ra rb
    have hu0 : A.units < cLine := Nat.lt_of_le_of_lt (Nat.le_add_right _ _) hu
    have hu1 : A.in1.units + n < cLine := by show A.units + 1 + n < cLine; omega
    by_cases hs : d.seq = false
    · exact rc_scal I d e A v u a b hs hu0 h g ra rb
    have step : ∀ {ds : List D}, D.dataAll n ds = true → ∀ (d e : D) (v u : V) (a b : Value), d ∈ ds → Rdv X.K H v d → Rdv X.K H u e → RelV v a → RelV u b → SeqAt.EqAt A.in1 s a b (eqG d e) :=
      fun hds d e v u a b hm h g ra rb => (ih d e A.in1 v u a b (data_mem hds hm) hu1 h g ra rb).2
    have hh := h
    have gg := g
    cases h with
    | tup q t =>
      rename_i a0 vs ds
      cases ra
      have hds : D.dataAll n ds = true := by simpa [D.data] using hd
      obtain ⟨its, r1, p1, _⟩ := I.tuple q
      cases g with
      | non => cases rb; exact ⟨.tuple_none p1 hu0, .tuple_none p1 hu0⟩
      | bl y => cases rb; exact ⟨.tuple_bool y p1 hu0, .tuple_bool y p1 hu0⟩
      | int y => obtain ⟨t, rfl⟩ := rb; exact ⟨.tuple_int y t p1 hu0, .tuple_int y t p1 hu0⟩
      | str y => obtain ⟨t, rfl⟩ := rb; exact ⟨.tuple_str y t p1 hu0, .tuple_str y t p1 hu0⟩
      | lst q2 t2 => cases rb; obtain ⟨_, _, p2, _⟩ := I.list q2; exact ⟨.tuple_list p1 p2.isList hu0, .tuple_list p1 p2.isList hu0⟩
      | fl q2 t2 => cases rb; obtain ⟨_, _, p2, _⟩ := I.list q2; exact ⟨.tuple_list p1 p2.isList hu0, .tuple_list p1 p2.isList hu0⟩
      | tup q2 t2 =>
        rename_i b0 us es
        cases rb
        obtain ⟨its2, r2, p2, _⟩ := I.tuple q2
        have l1 : its.length = ds.length := r1.length.symm.trans t.length
        have l2 : its2.length = es.length := r2.length.symm.trans t2.length
        have h := SeqAt.RcAt.tuples (A := A) (e := fun j => eqG (ds.getD j .non) (es.getD j .non)) p1 p2 hu0 fun j h1 h2 => by
          rw [List.size_toArray] at h1 h2
          obtain ⟨v, e1, e2, e3⟩ := Rdvs.at (P := fun _ _ _ => True) t r1 j h1
          obtain ⟨u, f1, f2, _⟩ := Rdvs.at (P := fun _ _ _ => True) t2 r2 j h2
          exact step hds _ _ v u _ _ e3 e1 f1 e2 f2
        rw [List.size_toArray, List.size_toArray, l1, l2, eqGs_range] at h
        refine rc_pair h fun z => ?_
        subst z
        exact Rdv.same I (.tup ds) (.tup es) hh gg
    | lst q t =>
      rename_i a0 vs ds
      cases ra
      have hds : D.dataAll n ds = true := by simpa [D.data] using hd
      obtain ⟨its, r1, p1, _⟩ := I.list q
      cases g with
      | non => cases rb; exact ⟨.list_none p1.isList hu0, .list_none p1.isList hu0⟩
      | bl y => cases rb; exact ⟨.list_bool y p1.isList hu0, .list_bool y p1.isList hu0⟩
      | int y => obtain ⟨t, rfl⟩ := rb; exact ⟨.list_int y t p1.isList hu0, .list_int y t p1.isList hu0⟩
      | str y => obtain ⟨t, rfl⟩ := rb; exact ⟨.list_str y t p1.isList hu0, .list_str y t p1.isList hu0⟩
      | tup q2 t2 => cases rb; obtain ⟨_, _, p2, _⟩ := I.tuple q2; exact ⟨.list_tuple p1.isList p2 hu0, .list_tuple p1.isList p2 hu0⟩
      | lst q2 t2 =>
        cases rb
        refine rc_pair (rc_lists I hu0 q q2 t t2 (step hds)) fun z => ?_
        subst z
        exact Rdv.same I (.lst _) (.lst _) hh gg
      | fl q2 t2 =>
        cases rb
        refine rc_pair (rc_lists I hu0 q q2 t t2 (step hds)) fun z => ?_
        subst z
        exact Rdv.same I (.lst _) (.fl _) hh gg
    | fl q t =>
      rename_i a0 vs ds
      cases ra
      have hds : D.dataAll n ds = true := by simpa [D.data] using hd
      obtain ⟨its, r1, p1, _⟩ := I.list q
      cases g with
      | non => cases rb; exact ⟨.list_none p1.isList hu0, .list_none p1.isList hu0⟩
      | bl y => cases rb; exact ⟨.list_bool y p1.isList hu0, .list_bool y p1.isList hu0⟩
      | int y => obtain ⟨t, rfl⟩ := rb; exact ⟨.list_int y t p1.isList hu0, .list_int y t p1.isList hu0⟩
      | str y => obtain ⟨t, rfl⟩ := rb; exact ⟨.list_str y t p1.isList hu0, .list_str y t p1.isList hu0⟩
      | tup q2 t2 => cases rb; obtain ⟨_, _, p2, _⟩ := I.tuple q2; exact ⟨.list_tuple p1.isList p2 hu0, .list_tuple p1.isList p2 hu0⟩
      | lst q2 t2 =>
        cases rb
        refine rc_pair (rc_lists I hu0 q q2 t t2 (step hds)) fun z => ?_
        subst z
        exact Rdv.same I (.fl _) (.lst _) hh gg
      | fl q2 t2 =>
        cases rb
        refine rc_pair (rc_lists I hu0 q q2 t t2 (step hds)) fun z => ?_
        subst z
        exact Rdv.same I (.fl _) (.fl _) hh gg
    | non => simp [D.seq] at hs
    | bl _ => simp [D.seq] at hs
    | int _ => simp [D.seq] at hs
    | str _ => simp [D.seq] at hs
theorem rc_neLists (I : Inv X pins σ H s) {A : Around} {l b : Addr} {vs us : List V} {ds es : List D} (hu : A.units < cLine) (q : SqL X.K H l vs) (q2 : SqL X.K H b us) (t : Rdvs X.K H vs ds) (t2 : Rdvs X.K H us es)
    (ih : ∀ (d e : D) (v u : V) (a b : Value), d ∈ ds → Rdv X.K H v d → Rdv X.K H u e → RelV v a → RelV u b → SeqAt.EqAt A.in1 s a b (eqG d e)) : SeqAt.RcNeAt A s (.ref l) (.ref b) (!eqGs ds es) := by
  obtain ⟨its, r1, p1, _⟩ := I.list q
  obtain ⟨its2, r2, p2, _⟩ := I.list q2
  have l1 : its.length = ds.length := r1.length.symm.trans t.length
  have l2 : its2.length = es.length := r2.length.symm.trans t2.length
  by_cases hl : ds.length = es.length
  · have h := SeqAt.RcNeAt.lists (A := A) (e := fun j => eqG (ds.getD j .non) (es.getD j .non)) p1.isList p2.isList (by rw [List.size_toArray, List.size_toArray]; omega) hu fun j h1 h2 => by
      rw [List.size_toArray] at h1 h2
      obtain ⟨v, e1, e2, e3⟩ := Rdvs.at (P := fun _ _ _ => True) t r1 j h1
      obtain ⟨u, f1, f2, _⟩ := Rdvs.at (P := fun _ _ _ => True) t2 r2 j h2
      exact ih _ _ v u _ _ e3 e1 f1 e2 f2
    have e : (List.range its.toArray.size).all (fun j => eqG (ds.getD j .non) (es.getD j .non)) = eqGs ds es := by
      rw [← eqGs_range, ← hl, Nat.min_self, List.size_toArray, l1, beq_self_eq_true, Bool.and_true]
    rw [e] at h
    exact h
  · rw [eqGs_len hl]
    exact SeqAt.RcNeAt.lists_lengths p1.isList p2.isList (by rw [List.size_toArray, List.size_toArray, l1, l2]; exact bne_iff_ne.mpr hl) hu
theorem rc_neG (I : Inv X pins σ H s) (n : Nat) (d e : D) (A : Around) (v u : V) (a b : Value) (hd : D.data n d = true) (hu : A.units + n < cLine) (h : Rdv X.K H v d) (g : Rdv X.K H u e) (ra : RelV v a) (rb : RelV u b) : SeqAt.RcNeAt A s a b (!eqG d e) := by
  have hu0 : A.units < cLine := Nat.lt_of_le_of_lt (Nat.le_add_right _ _) hu
  cases h with
  | non =>
    cases ra
    cases g with
    | non => cases rb; exact SeqAt.RcNeAt.none_none
    | bl y => cases rb; exact .none_bool y
    | int y => obtain ⟨t, rfl⟩ := rb; exact .none_int y t
    | str y => obtain ⟨t, rfl⟩ := rb; exact .none_str y t
    | tup q t => cases rb; obtain ⟨_, _, p, _⟩ := I.tuple q; exact .none_tuple p hu0
    | lst q t => cases rb; obtain ⟨_, _, p, _⟩ := I.list q; exact .none_list p.isList hu0
    | fl q t => cases rb; obtain ⟨_, _, p, _⟩ := I.list q; exact .none_list p.isList hu0
  | bl x =>
    cases ra
    cases g with
    | non => cases rb; exact .bool_none x
    | bl y => cases rb; exact .bool_bool x y
    | int y => obtain ⟨t, rfl⟩ := rb; exact .bool_int x y t
    | str y => obtain ⟨t, rfl⟩ := rb; exact .bool_str x y t
    | tup q t => cases rb; obtain ⟨_, _, p, _⟩ := I.tuple q; exact .bool_tuple x p hu0
    | lst q t => cases rb; obtain ⟨_, _, p, _⟩ := I.list q; exact .bool_list x p.isList hu0
    | fl q t => cases rb; obtain ⟨_, _, p, _⟩ := I.list q; exact .bool_list x p.isList hu0
  | int x =>
    obtain ⟨tx, rfl⟩ := ra
    cases g with
    | non => cases rb; exact .int_none x tx
    | bl y => cases rb; exact .int_bool x tx y
    | int y => obtain ⟨t, rfl⟩ := rb; exact .int_int x tx y t
    | str y => obtain ⟨t, rfl⟩ := rb; exact .int_str x tx y t
    | tup q t => cases rb; obtain ⟨_, _, p, _⟩ := I.tuple q; exact .int_tuple x tx p hu0
    | lst q t => cases rb; obtain ⟨_, _, p, _⟩ := I.list q; exact .int_list x tx p.isList hu0
    | fl q t => cases rb; obtain ⟨_, _, p, _⟩ := I.list q; exact .int_list x tx p.isList hu0
  | str x =>
    obtain ⟨tx, rfl⟩ := ra
    cases g with
    | non => cases rb; exact .str_none x tx
    | bl y => cases rb; exact .str_bool x tx y
    | int y => obtain ⟨t, rfl⟩ := rb; exact .str_int x tx y t
    | str y => obtain ⟨t, rfl⟩ := rb; exact .str_str x tx y t
    | tup q t => cases rb; obtain ⟨_, _, p, _⟩ := I.tuple q; exact .str_tuple x tx p hu0
    | lst q t => cases rb; obtain ⟨_, _, p, _⟩ := I.list q; exact .str_list x tx p.isList hu0
    | fl q t => cases rb; obtain ⟨_, _, p, _⟩ := I.list q; exact .str_list x tx p.isList hu0
  | tup q t =>
    rename_i a0 vs ds
    cases ra
    have hds : D.dataAll (n - 1) ds = true ∧ 0 < n := by cases n with | zero => simp [D.data] at hd | succ n => exact ⟨by simpa [D.data] using hd, Nat.succ_pos _⟩
    have hu1 : A.in1.units + (n - 1) < cLine := by show A.units + 1 + (n - 1) < cLine; omega
    have step : ∀ (d e : D) (v u : V) (a b : Value), d ∈ ds → Rdv X.K H v d → Rdv X.K H u e → RelV v a → RelV u b → SeqAt.EqAt A.in1 s a b (eqG d e) :=
      fun d e v u a b hm h g ra rb => (rc_eqG I (n - 1) d e A.in1 v u a b (data_mem hds.1 hm) hu1 h g ra rb).2
    obtain ⟨its, r1, p1, _⟩ := I.tuple q
    cases g with
    | non => cases rb; exact .tuple_none p1 hu0
    | bl y => cases rb; exact .tuple_bool y p1 hu0
    | int y => obtain ⟨t, rfl⟩ := rb; exact .tuple_int y t p1 hu0
    | str y => obtain ⟨t, rfl⟩ := rb; exact .tuple_str y t p1 hu0
    | lst q2 t2 => cases rb; obtain ⟨_, _, p2, _⟩ := I.list q2; exact .tuple_list p1 p2.isList hu0
    | fl q2 t2 => cases rb; obtain ⟨_, _, p2, _⟩ := I.list q2; exact .tuple_list p1 p2.isList hu0
    | tup q2 t2 =>
      rename_i b0 us es
      cases rb
      obtain ⟨its2, r2, p2, _⟩ := I.tuple q2
      have l1 : its.length = ds.length := r1.length.symm.trans t.length
      have l2 : its2.length = es.length := r2.length.symm.trans t2.length
      have h := SeqAt.RcNeAt.tuples (A := A) (e := fun j => eqG (ds.getD j .non) (es.getD j .non)) p1 p2 hu0 fun j h1 h2 => by
        rw [List.size_toArray] at h1 h2
        obtain ⟨v, e1, e2, e3⟩ := Rdvs.at (P := fun _ _ _ => True) t r1 j h1
        obtain ⟨u, f1, f2, _⟩ := Rdvs.at (P := fun _ _ _ => True) t2 r2 j h2
        exact step _ _ v u _ _ e3 e1 f1 e2 f2
      rw [List.size_toArray, List.size_toArray, l1, l2, eqGs_range] at h
      exact h
  | lst q t =>
    rename_i a0 vs ds
    cases ra
    have hds : D.dataAll (n - 1) ds = true ∧ 0 < n := by cases n with | zero => simp [D.data] at hd | succ n => exact ⟨by simpa [D.data] using hd, Nat.succ_pos _⟩
    have hu1 : A.in1.units + (n - 1) < cLine := by show A.units + 1 + (n - 1) < cLine; omega
    have step : ∀ (d e : D) (v u : V) (a b : Value), d ∈ ds → Rdv X.K H v d → Rdv X.K H u e → RelV v a → RelV u b → SeqAt.EqAt A.in1 s a b (eqG d e) :=
      fun d e v u a b hm h g ra rb => (rc_eqG I (n - 1) d e A.in1 v u a b (data_mem hds.1 hm) hu1 h g ra rb).2
    obtain ⟨its, r1, p1, _⟩ := I.list q
    cases g with
    | non => cases rb; exact .list_none p1.isList hu0
    | bl y => cases rb; exact .list_bool y p1.isList hu0
    | int y => obtain ⟨t, rfl⟩ := rb; exact .list_int y t p1.isList hu0
    | str y => obtain ⟨t, rfl⟩ := rb; exact .list_str y t p1.isList hu0
    | tup q2 t2 => cases rb; obtain ⟨_, _, p2, _⟩ := I.tuple q2; exact .list_tuple p1.isList p2 hu0
    | lst q2 t2 => cases rb; exact rc_neLists I hu0 q q2 t t2 step
    | fl q2 t2 => cases rb; exact rc_neLists I hu0 q q2 t t2 step
  | fl q t =>
    rename_i a0 vs ds
    cases ra
    have hds : D.dataAll (n - 1) ds = true ∧ 0 < n := by cases n with | zero => simp [D.data] at hd | succ n => exact ⟨by simpa [D.data] using hd, Nat.succ_pos _⟩
    have hu1 : A.in1.units + (n - 1) < cLine := by show A.units + 1 + (n - 1) < cLine; omega
    have step : ∀ (d e : D) (v u : V) (a b : Value), d ∈ ds → Rdv X.K H v d → Rdv X.K H u e → RelV v a → RelV u b → SeqAt.EqAt A.in1 s a b (eqG d e) :=
      fun d e v u a b hm h g ra rb => (rc_eqG I (n - 1) d e A.in1 v u a b (data_mem hds.1 hm) hu1 h g ra rb).2
    obtain ⟨its, r1, p1, _⟩ := I.list q
    cases g with
    | non => cases rb; exact .list_none p1.isList hu0
    | bl y => cases rb; exact .list_bool y p1.isList hu0
    | int y => obtain ⟨t, rfl⟩ := rb; exact .list_int y t p1.isList hu0
    | str y => obtain ⟨t, rfl⟩ := rb; exact .list_str y t p1.isList hu0
    | tup q2 t2 => cases rb; obtain ⟨_, _, p2, _⟩ := I.tuple q2; exact .list_tuple p1.isList p2 hu0
    | lst q2 t2 => cases rb; exact rc_neLists I hu0 q q2 t t2 step
    | fl q2 t2 => cases rb; exact rc_neLists I hu0 q q2 t t2 step
end
/-- a list of the store, read -/
def resv (S : List MO) (x : D) : D := match x with
  | .ob n => match S[n]? with
    | some (.ml xs) => .lst xs
    | _ => .ob n
  | x => x
theorem resv_ok {K : Frag} {w : Wr} (d : Wd K w) {v : V} {x : D} {n : Nat} (h : Dt K w v x) (e : D.data n (resv w.S x) = true) : Rdv K w.H v (resv w.S x) := by
  cases x with
  | ob m =>
    cases h with
    | ob _ hn =>
      unfold resv at e ⊢
      dsimp only at e ⊢
      cases q : w.S[m]? with
      | none => rw [q] at e; simp [D.data] at e
      | some o =>
        rw [q] at e
        cases o with
        | ml ys =>
          dsimp only at e ⊢
          obtain ⟨vs, e2, t⟩ := d.ob m _ q
          cases n with
          | zero => simp [D.data] at e
          | succ n => exact .lst (SqL.of e2) (Dats.rdv d.fz ys t (by simpa [D.data] using e))
        | _ => simp [D.data] at e
  | _ => exact Dat.rdv d.fz _ h e
def eqB (S : List MO) (x y : D) : Option Bool := if D.data 60 (resv S x) = true ∧ D.data 60 (resv S y) = true then some (eqG (resv S x) (resv S y)) else none
def eqD (S : List MO) (x y : D) : Option D := (eqB S x y).map .bl
def neD (S : List MO) (x y : D) : Option D := (eqB S x y).map fun b => .bl (!b)
section
variable {X : Cx}
theorem o_eq {k : Nat} (hr : Room k X.A) : OpR X (compareOp .Eq) (opM X.K eqD) := by
  rintro pins s σ H x y v u Q inv rx ry ⟨w, dx, dy, d, rfl, wd, hx, hy, q, k⟩
  unfold eqD eqB at q
  split at q
  · rename_i hc
    cases q
    have hu := hr.units
    exact (rc_eqG inv 60 _ _ X.A x y v u hc.1 (by omega) (resv_ok wd hx hc.1) (resv_ok wd hy hc.2) rx ry).1 X.prog X.w X.xe _ ⟨.bl _, _, inv, rfl, k w (.bl _) rfl (Ex.refl _) wd (.bl _)⟩
  · cases q
theorem o_ne {k : Nat} (hr : Room k X.A) : OpR X (compareOp .NotEq) (opM X.K neD) := by
  rintro pins s σ H x y v u Q inv rx ry ⟨w, dx, dy, d, rfl, wd, hx, hy, q, k⟩
  unfold neD eqB at q
  split at q
  · rename_i hc
    cases q
    have hu := hr.units
    exact (rc_neG inv 60 _ _ X.A x y v u hc.1 (by omega) (resv_ok wd hx hc.1) (resv_ok wd hy hc.2) rx ry) X.prog X.w X.xe _ ⟨.bl _, _, inv, rfl, k w (.bl _) rfl (Ex.refl _) wd (.bl _)⟩
  · cases q
end
section
variable {X : Cx}
/-- is None -/
def isNone : D → Bool
  | .non => true
  | _ => false
theorem Dat.isNone {K : Frag} {ι : Nat → Addr} {N : Nat} {B : Hp} {v : V} {d : D} (h : Dat K ι N B v d) : decide (v = .non) = PD.isNone d := by
  cases h <;> first | rfl | simp [PD.isNone]
def isD (_ : List MO) (x y : D) : Option D := match y with
  | .non => some (.bl (isNone x))
  | _ => none
def isntD (_ : List MO) (x y : D) : Option D := match y with
  | .non => some (.bl (!isNone x))
  | _ => none
theorem o_is : OpR X (compareOp .Is) (opM X.K isD) := OpR.imp op_isN fun x y H Q ⟨w, dx, dy, d, e, wd, hx, hy, q, k⟩ => by
  subst e
  cases dy with
  | non => cases q; exact ⟨hy.non_of, by rw [hx.isNone]; exact k w _ rfl (Ex.refl _) wd (.bl _)⟩
  | _ => cases q
theorem o_isnt : OpR X (compareOp .IsNot) (opM X.K isntD) := OpR.imp op_notN fun x y H Q ⟨w, dx, dy, d, e, wd, hx, hy, q, k⟩ => by
  subst e
  cases dy with
  | non => cases q; exact ⟨hy.non_of, by rw [hx.isNone]; exact k w _ rfl (Ex.refl _) wd (.bl _)⟩
  | _ => cases q
/-- in a flat list or tuple, a sign in a text -/
def flD : D → Bool
  | .non => true
  | .bl _ => true
  | .int _ => true
  | .str _ => true
  | _ => false
def eqF : D → D → Bool
  | .non, .non => true
  | .bl a, .bl b => a == b
  | .bl a, .int b => (if a then 1 else 0) == b
  | .int a, .bl b => a == (if b then 1 else 0)
  | .int a, .int b => a == b
  | .str a, .str b => a == b
  | _, _ => false
def inB (S : List MO) (x y : D) : Option Bool := match x, y with
  | .str z, .str t => match z.cps.toList with
    | [c] => some (decide (c ∈ t.cps.toList))
    | _ => none
  | x, y => match seqOf S y with
    | some ys => if (flD x && ys.all flD) = true then some (ys.any fun z => eqF z x) else none
    | none => none
def inD (S : List MO) (x y : D) : Option D := (inB S x y).map .bl
def ninD (S : List MO) (x y : D) : Option D := (inB S x y).map fun b => .bl (!b)
theorem Dat.flat {K : Frag} {ι : Nat → Addr} {N : Nat} {B : Hp} {v : V} {d : D} (h : Dat K ι N B v d) (f : flD d = true) : flatV v = true := by
  cases h <;> first | rfl | (simp [flD] at f; done)
theorem Dats.flat {K : Frag} {ι : Nat → Addr} {N : Nat} {B : Hp} : ∀ {vs : List V} {ds : List D}, Dats K ι N B vs ds → ds.all flD = true → vs.all flatV = true
  | _, _, .nil, _ => rfl
  | _, _, .cons h t, f => by
    rw [List.all_cons, Bool.and_eq_true] at f ⊢
    exact ⟨h.flat f.1, t.flat f.2⟩
theorem Dat.eqV {K : Frag} {ι : Nat → Addr} {N : Nat} {B : Hp} {u v : V} {d e : D} (h : Dat K ι N B u d) (g : Dat K ι N B v e) (f : flD d = true) (f' : flD e = true) : L2.eqV u v = eqF d e := by
  cases h <;> first | (simp [flD] at f; done) | (cases g <;> first | rfl | (simp [flD] at f'; done))
theorem Dats.inV {K : Frag} {ι : Nat → Addr} {N : Nat} {B : Hp} {v : V} {e : D} (g : Dat K ι N B v e) (f' : flD e = true) : ∀ {vs : List V} {ds : List D}, Dats K ι N B vs ds → ds.all flD = true → L2.inV v vs = ds.any fun z => eqF z e
  | _, _, .nil, _ => rfl
  | _, _, .cons h t, f => by
    rw [List.all_cons, Bool.and_eq_true] at f
    unfold L2.inV
    rw [List.any_cons, List.any_cons, h.eqV g f.1 f']
    exact congrArg _ (t.inV g f' f.2)
theorem inB_cases {S : List MO} {x y : D} {b : Bool} (h : inB S x y = some b) : (∃ c t, x = .str ⟨#[c]⟩ ∧ y = .str t ∧ b = decide (c ∈ t.cps.toList)) ∨ (∃ ys, seqOf S y = some ys ∧ flD x = true ∧ ys.all flD = true ∧ b = ys.any fun z => eqF z x) := by
  unfold inB at h
  split at h
  · rename_i z t
    split at h
    · rename_i c hc
      cases h
      refine .inl ⟨c, t, ?_, rfl, rfl⟩
      obtain ⟨a⟩ := z
      have : a = #[c] := by simpa using congrArg List.toArray hc
      rw [this]
    · cases h
  · split at h
    · split at h
      · rename_i hs
        rw [Bool.and_eq_true] at hs
        cases h
        exact .inr ⟨_, by assumption, hs.1, hs.2, rfl⟩
      · cases h
    · cases h
theorem o_in : OpR X (compareOp .In) (opM X.K inD) := by
  intro pins s σ H x y v u Q I rx ry ⟨w, dx, dy, d, e, wd, hx, hy, q, k⟩
  subst e
  unfold inD at q
  rw [Option.map_eq_some_iff] at q
  obtain ⟨b, q, rfl⟩ := q
  rcases inB_cases q with ⟨c, t, rfl, rfl, rfl⟩ | ⟨ys, e1, f1, f2, rfl⟩
  · exact op_in_sign pins s σ _ x y v u Q I rx ry ⟨c, t, hx.str_of.1, hy.str_of.1, k w _ rfl (Ex.refl _) wd (.bl _)⟩
  · obtain ⟨a, vs, rfl, hq, t⟩ := seqOf_ok wd hy e1
    refine op_in_seq pins s σ _ x _ v u Q I rx ry ⟨a, vs, rfl, hq.symm, hx.flat f1, t.flat f2, ?_⟩
    show Q (V.bl (L2.inV x vs)) w.H
    rw [Dats.inV hx f1 t f2]
    exact k w _ rfl (Ex.refl _) wd (.bl _)
theorem o_nin : OpR X (compareOp .NotIn) (opM X.K ninD) := by
  intro pins s σ H x y v u Q I rx ry ⟨w, dx, dy, d, e, wd, hx, hy, q, k⟩
  subst e
  unfold ninD at q
  rw [Option.map_eq_some_iff] at q
  obtain ⟨b, q, rfl⟩ := q
  rcases inB_cases q with ⟨c, t, rfl, rfl, rfl⟩ | ⟨ys, e1, f1, f2, rfl⟩
  · exact op_notIn_sign pins s σ _ x y v u Q I rx ry ⟨c, t, hx.str_of.1, hy.str_of.1, k w _ rfl (Ex.refl _) wd (.bl _)⟩
  · obtain ⟨a, vs, rfl, hq, t⟩ := seqOf_ok wd hy e1
    refine op_notIn_seq pins s σ _ x _ v u Q I rx ry ⟨a, vs, rfl, hq.symm, hx.flat f1, t.flat f2, ?_⟩
    show Q (V.bl (!L2.inV x vs)) w.H
    rw [Dats.inV hx f1 t f2]
    exact k w _ rfl (Ex.refl _) wd (.bl _)
end
end PD

set_option Elab.async false
set_option linter.all false
set_option maxRecDepth 100000
namespace PD
open PySem PySem.Spec PyProof.Rows L2
/-! ### what is walked -/
/-- from w on the walk J gives the items ds, one after another -/
def Wk (K : Frag) (w : Wr) (J : It) (ds : List D) : Prop := ∃ G Y, Walk J ds.length G Y ∧ (∀ w1, Ex w w1 → Wd K w1 → G w1.H) ∧
  ∀ i w1 x H', i < ds.length → Ex w w1 → Wd K w1 → Y i w1.H x H' → ∃ w2 d, w2.H = H' ∧ w2.S = w1.S ∧ Ex w1 w2 ∧ Wd K w2 ∧ ds[i]? = some d ∧ Dt K w2 x d
def iM (K : Frag) (W : WX) (it : Rho → M (List D)) : TI := fun σ H R => ∃ w ρ, At K w σ ρ H ∧ Pst K (WE W σ) w (it ρ w.S) (fun ds w' => ∀ J, Wk K w' J ds → R J w'.H)
def PDI (X : Cx) (W : WX) (tg iter : Expr) (it : Rho → M (List D)) : Prop := PI X tg iter (iM X.K W it)
theorem PI.imp {X : Cx} {tg e : Expr} {t t' : TI} (h : PI X tg e t) (i : ∀ σ H Q, t' σ H Q → t σ H Q) : PI X tg e t' := ⟨fun pins s σ H R I q => h.run pins s σ H R I (i _ _ _ q)⟩
theorem wk_at {K : Frag} {w : Wr} {J : It} {vs : List V} {ds : List D} {G : Hp → Prop} (t : Dts K w vs ds) (wk : Walk J vs.length G (YAt vs)) (hG : ∀ w1, Ex w w1 → Wd K w1 → G w1.H) : Wk K w J ds := by
  refine ⟨G, YAt vs, by rw [← t.length]; exact wk, hG, fun i w1 x H' hi e1 d1 y => ?_⟩
  obtain ⟨e, hx⟩ := y
  obtain ⟨d, e2, r⟩ := t.getV hx
  exact ⟨w1, d, e.symm, rfl, Ex.refl _, d1, e2, Dt.ex e1 r⟩
def strD (z : Str) : List D := z.cps.toList.map fun c => .str ⟨#[c]⟩
/-- the items of a value that stands still -/
def itemsOf : D → M (List D)
  | .tup xs => pure xs
  | .lst xs => pure xs
  | .fl xs => pure xs
  | .str z => pure (strD z)
  | _ => bad
theorem wk_str {K : Frag} {w : Wr} {z : Str} : Wk K w (Its z) (strD z) := by
  have hl : (strD z).length = z.cps.size := by unfold strD; rw [List.length_map, Array.length_toList]
  refine ⟨_, _, by rw [hl]; exact walk_str, fun _ _ _ => trivial, fun i w1 x H' hi e1 d1 y => ?_⟩
  obtain ⟨e, c, hc, hx⟩ := y
  refine ⟨w1, .str ⟨#[c]⟩, e.symm, rfl, Ex.refl _, d1, ?_, ?_⟩
  · unfold strD
    rw [List.getElem?_map, Array.getElem?_toList, hc]
    rfl
  · rw [hx]; exact .str _ (by show 1 ≤ sizeLine; decide)
section
variable {X : Cx} {W : WX} {tg e : Expr} {m : Rho → M D} {ms : Rho → M (List D)} {p pos tpos : Pos}
/-- a value is walked: by its kind -/
theorem pi_by {te : TE} (he : PE X e te) : PI X tg e (fun σ H R => te σ H fun x H1 => (∃ a vs, x = .ref a ∧ SqL X.K H1 a vs ∧ R (Itl X.K a) H1) ∨ (∃ a vs, x = .ref a ∧ SqT X.K H1 a vs ∧ R (Itt X.K a) H1) ∨ ∃ z, x = .str z ∧ R (Its z) H1) := by
  constructor
  intro pins s σ H R inv hw
  refine thn (he.run pins s σ H _ inv hw) ?_
  rintro v s1 ⟨x, H1, inv1, r1, hq⟩
  rcases hq with ⟨a, vs, rfl, hl, q⟩ | ⟨a, vs, rfl, hl, q⟩ | ⟨z, rfl, q⟩
  · cases r1
    obtain ⟨its, rv, pl, _⟩ := inv1.list hl
    exact wpAny_pyIter_list pl.isList (pi_one (tk := s1.toks) inv1 _ (turn_list a _) ⟨_, Heap.get?_push_size _ rfl, rfl, rfl⟩ q)
  · cases r1
    obtain ⟨its, rv, pl, _⟩ := inv1.tuple hl
    exact wpAny_pyIter_tuple (show s1.heap.IsTuple a its.toArray from pl) (pi_one (tk := s1.toks) inv1 _ (turn_tuple a _) ⟨_, Heap.get?_push_size _ rfl, rfl, rfl⟩ q)
  · obtain ⟨tk, rfl⟩ := r1
    cases hz : z.cps.all (· < 128)
    · exact wpAny_pyIter_wide hz (pi_one (tk := s1.toks) inv1 _ (turn_str _ z tk "str_iterator" (.inr rfl)) ⟨_, Heap.get?_push_size _ rfl, rfl, rfl⟩ q)
    · exact wpAny_pyIter_ascii hz (pi_one (tk := s1.toks) inv1 _ (turn_str _ z tk "str_ascii_iterator" (.inl rfl)) ⟨_, Heap.get?_push_size _ rfl, rfl, rfl⟩ q)
def valI (m : Rho → M D) : Rho → M (List D) := fun ρ => m ρ >>= itemsOf
theorem pdi_val (he : PDE X W e m) : PDI X W tg e (valI m) := PI.imp (pi_by he) fun σ H R ⟨w, ρ, a, h⟩ =>
  tE_bind (f := fun _ d => itemsOf d) a h fun d v w1 e1 a1 hv h1 => by
    cases d with
    | tup xs =>
      obtain ⟨b, vs, rfl, q, t⟩ := hv.tup_of
      exact .inr (.inl ⟨b, vs, rfl, SqT.same a1.2.1.fz q, h1 w1 rfl (Ex.refl _) a1.2.1 _ (wk_at t walk_tup fun w2 e2 d2 => SqT.same (fun c o z => d2.fz _ _ (e2.fz c o z)) q)⟩)
    | lst xs =>
      cases hv with
      | lst q l t => exact .inl ⟨_, _, rfl, SqL.of (a1.2.1.fz _ _ q), h1 w1 rfl (Ex.refl _) a1.2.1 _ (wk_at t walk_list fun w2 e2 d2 => SqL.of (d2.fz _ _ (e2.fz _ _ q)))⟩
    | fl xs =>
      cases hv with
      | fl q l t => exact .inl ⟨_, _, rfl, SqL.same a1.2.1.fz q, h1 w1 rfl (Ex.refl _) a1.2.1 _ (wk_at t walk_list fun w2 e2 d2 => SqL.same (fun c o z => d2.fz _ _ (e2.fz c o z)) q)⟩
    | str z =>
      obtain ⟨rfl, _⟩ := hv.str_of
      exact .inr (.inr ⟨z, rfl, h1 w1 rfl (Ex.refl _) a1.2.1 _ wk_str⟩)
    | _ => exact h1.elim
/-! range -/
def upD (lo : Int) (n : Nat) : List D := (List.range n).map fun i => .int (lo + (i : Nat))
theorem wk_range {K : Frag} {w : Wr} {lo : Int} {n : Nat} : Wk K w (Itr lo n) (upD lo n) := by
  have hl : (upD lo n).length = n := by unfold upD; rw [List.length_map, List.length_range]
  refine ⟨_, _, by rw [hl]; exact walk_range, fun _ _ _ => trivial, fun i w1 x H' hi e1 d1 y => ?_⟩
  obtain ⟨e, hx⟩ := y
  refine ⟨w1, .int (lo + (i : Nat)), e.symm, rfl, Ex.refl _, d1, ?_, ?_⟩
  · rw [hl] at hi
    unfold upD
    rw [List.getElem?_map, List.getElem?_range hi]
    rfl
  · rw [hx]; exact .int _
def rng1 : List D → M (List D)
  | [.int j] => if -(2 ^ 62) ≤ j ∧ j < 2 ^ 62 then pure (upD 0 j.toNat) else bad
  | _ => bad
def rng2 : List D → M (List D)
  | [.int i, .int j] => if -(2 ^ 62) ≤ i ∧ i < 2 ^ 62 ∧ -(2 ^ 62) ≤ j ∧ j < 2 ^ 62 then pure (upD i (j - i).toNat) else bad
  | _ => bad
theorem Dats.one {K : Frag} {w : Wr} {vs : List V} {d : D} (h : Dts K w vs [d]) : ∃ v, vs = [v] ∧ Dt K w v d := by
  cases h with
  | cons h t => cases t; exact ⟨_, rfl, h⟩
theorem Dats.two {K : Frag} {w : Wr} {vs : List V} {d e : D} (h : Dts K w vs [d, e]) : ∃ v u, vs = [v, u] ∧ Dt K w v d ∧ Dt K w u e := by
  cases h with
  | cons h t =>
    obtain ⟨u, rfl, g⟩ := Dats.one t
    exact ⟨_, _, rfl, h, g⟩
theorem pdi_range1 {a : Expr} (hg : Gl X "range") (hm : X.mg "range" = none) (ha : PDA X W [a] ms) (hs : starEach [a] X.env = [(false, eval a X.env)] := by rfl) : PDI X W tg (.Call (.Name "range" p) [a] [] pos) (fun ρ => ms ρ >>= rng1) :=
  PI.imp (pi_range1 hg hm ha hs) fun σ H R ⟨w, ρ, a, h⟩ => tA_bind (f := fun _ ds => rng1 ds) a h fun ds vs w1 e1 a1 hv h1 => by
    unfold rng1 at h1
    split at h1
    · split at h1
      · rename_i hb
        obtain ⟨v, rfl, hv'⟩ := Dats.one hv
        rw [hv'.int_of]
        exact ⟨_, rfl, hb.1, hb.2, h1 w1 rfl (Ex.refl _) a1.2.1 _ wk_range⟩
      · exact h1.elim
    · exact h1.elim
theorem pdi_range2 {a b : Expr} (hg : Gl X "range") (hm : X.mg "range" = none) (ha : PDA X W [a, b] ms) (hs : starEach [a, b] X.env = [(false, eval a X.env), (false, eval b X.env)] := by rfl) (hs2 : starEach [b] X.env = [(false, eval b X.env)] := by rfl) :
    PDI X W tg (.Call (.Name "range" p) [a, b] [] pos) (fun ρ => ms ρ >>= rng2) :=
  PI.imp (pi_range2 hg hm ha hs hs2) fun σ H R ⟨w, ρ, a, h⟩ => tA_bind (f := fun _ ds => rng2 ds) a h fun ds vs w1 e1 a1 hv h1 => by
    unfold rng2 at h1
    split at h1
    · split at h1
      · rename_i hb
        obtain ⟨v, u, rfl, hv', hu⟩ := Dats.two hv
        rw [hv'.int_of, hu.int_of]
        exact ⟨_, _, rfl, hb, h1 w1 rfl (Ex.refl _) a1.2.1 _ wk_range⟩
      · exact h1.elim
    · exact h1.elim
end

/-! ### a for -/
def forM (g : D → Rho → M Rho) (body : Rho → M Fl) : List D → Rho → M Fl
  | [], ρ => pure (.nx ρ)
  | d :: ds, ρ => g d ρ >>= fun ρ' => body ρ' >>= fun fl => match fl with
    | .nx ρ2 => forM g body ds ρ2
    | .ct ρ2 => forM g body ds ρ2
    | .bk ρ2 => pure (.nx ρ2)
    | .rt d => pure (.rt d)
def forS (it : Rho → M (List D)) (g : D → Rho → M Rho) (body : Rho → M Fl) : Rho → M Fl := fun ρ => it ρ >>= fun ds => forM g body ds ρ
theorem Pst.split {K : Frag} {W : XK} {w0 w : Wr} {α β : Type} {m : M α} {f : α → M β} {k : β → Wr → Prop} (h : Pst K W w0 ((m >>= f) w.S) k) (x : Ex w0 w) (d : Wd K w) :
    Pst K W w (m w.S) fun a w' => Ex w0 w' ∧ Pst K W w0 (f a w'.S) k := by
  rw [bind_app] at h
  cases e : m w.S with
  | ok a S =>
    rw [e] at h
    intro w' e' x' d'
    rw [e']
    exact ⟨x.trans d x', h⟩
  | exc C fs S =>
    rw [e] at h
    exact fun w' dd e' x' d' => h w' dd e' (x.trans d x') d'
  | bad => rw [e] at h; exact h.elim
section
variable {X : Cx} {W : WX} {tg iter : Expr} {it : Rho → M (List D)} {g : D → Rho → M Rho} {body : List Stmt} {mb : Rho → M Fl} {pos : Pos}
theorem pds_for (bl : Blind W) (hp : PassesOwn (model X.prog X.w) X.A X.env X.xe) (hc : X.calm = true) (hi : PDI X W tg iter it) (hg : PDG X W tg g) (hb : PDSs X W body mb)
    (hs : ∀ x, foldedSetIterable iter X.env x = pure x := by intro _; rfl) : PDS X W (.For tg iter body [] pos) (forS it g mb) := PS.imp (ps_for hp hc hi hg hb hs) fun Dn σ H ⟨w, ρ, a, h⟩ => by
  refine ⟨w, ρ, a, (Pst.bind (m := it ρ) (f := fun ds => forM g mb ds ρ) h).mono fun ds w0 e0 d0 h0 J wk => ?_⟩
  obtain ⟨G, Y, wk, hG, hY⟩ := wk
  refine for_it wk (fun i σ H => ∃ w1 ρ1, At X.K w1 σ ρ1 H ∧ Ex w0 w1 ∧ Pst X.K (WE W σ) w0 (forM g mb (ds.drop i) ρ1 w1.S) (kS X.K Dn))
    ⟨w0, ρ, ⟨rfl, d0, a.2.2.ex e0⟩, Ex.refl _, h0⟩ (fun i σ H hi ⟨w1, ρ1, a1, e1, _⟩ => by rw [← a1.1]; exact hG w1 e1 a1.2.1) ?_ ?_
  · rintro i x σ1 H1 H' hi ⟨w1, ρ1, ⟨rfl, d1, l1⟩, e1, h1⟩ y
    obtain ⟨w2, d, rfl, hS, e2, d2, hd, hx⟩ := hY i w1 x H' hi e1 d1 y
    have hd' : ds.drop i = d :: ds.drop (i + 1) := by
      rw [List.drop_eq_getElem_cons hi]
      congr 1
      rw [List.getElem?_eq_getElem hi] at hd
      exact Option.some.inj hd
    rw [hd', ← hS] at h1
    have x2 := e1.trans d1 e2
    refine ⟨w2, ρ1, d, ⟨rfl, d2, l1.ex e2⟩, hx, (Pst.split (m := g d ρ1) h1 x2 d2).mono fun ρ3 w3 e3 d3 ⟨x3, h3⟩ σ3 l3 => ?_⟩
    have h3 := Pst.blind (σ' := σ3) bl h3
    refine ⟨w3, ρ3, ⟨rfl, d3, l3⟩, (Pst.split (m := mb ρ3) h3 x3 d3).mono fun fl w4 e4 d4 ⟨x4, h4⟩ => ?_⟩
    cases fl with
    | nx ρ5 => exact fun σ5 l5 => ⟨w4, ρ5, ⟨rfl, d4, l5⟩, x4, Pst.blind bl h4⟩
    | ct ρ5 => exact fun σ5 l5 => ⟨w4, ρ5, ⟨rfl, d4, l5⟩, x4, Pst.blind bl h4⟩
    | bk ρ5 => exact h4 w4 rfl x4 d4
    | rt d5 => exact h4 w4 rfl x4 d4
  · rintro σ1 H1 ⟨w1, ρ1, ⟨rfl, d1, l1⟩, e1, h1⟩
    rw [List.drop_length] at h1
    exact h1 w1 rfl e1 d1 σ1 l1
end

/-! ### a comprehension -/
def noX {α : Type} (m : M α) : M α := fun S => match m S with
  | .ok a S1 => .ok a S1
  | _ => .bad
theorem noX_pure {α : Type} (a : α) : noX (pure a : M α) = pure a := rfl
theorem noX_bad {α : Type} : noX (bad : M α) = bad := rfl
def compM (f : D → M (Option D)) : List D → M (List D)
  | [] => pure []
  | d :: ds => noX (f d) >>= fun o => compM f ds >>= fun rs => pure (o.toList ++ rs)
def wipeR (ρ : Rho) : List Nat → Rho
  | [] => ρ
  | v :: vs => (wipeR ρ vs).set v none
def turnM (g : D → Rho → M Rho) (t : Rho → M Bool) (m : Rho → M D) (ρ : Rho) (d : D) : M (Option D) := g d ρ >>= fun ρ' => t ρ' >>= fun b => if b = true then m ρ' >>= fun r => pure (some r) else pure none
def lcM (vs : List Nat) (it : Rho → M (List D)) (g : D → Rho → M Rho) (t : Rho → M Bool) (m : Rho → M D) : Rho → M D := fun ρ => it ρ >>= fun ds => compM (turnM g t m (wipeR ρ vs)) ds >>= mkL
/-- a list is laid that nobody holds yet, or grows -/
theorem Wd.poke {K : Frag} {w : Wr} {a : Addr} {o : HO} (d : Wd K w) (hB : w.B a = none) (hi : ∀ n, n < w.S.length → w.ι n ≠ a) : Wd K { w with H := upd w.H a o } := by
  refine ⟨fun b u h => ?_, d.sp, fun n u h => ?_, d.inj⟩
  · show upd w.H a o b = some u
    rw [upd_ne (fun z => by have h : w.B b = some u := h; rw [z, hB] at h; cases h)]
    exact d.fz b u h
  · have hn : n < w.S.length := (List.getElem?_eq_some_iff.mp h).1
    have q := d.ob n u h
    have eH : upd w.H a o (w.ι n) = w.H (w.ι n) := upd_ne (hi n hn)
    cases u with
    | ml ds => obtain ⟨vs, e, t⟩ := q; exact ⟨vs, eH.trans e, t⟩
    | mk ks ds => obtain ⟨vs, e, l, t⟩ := q; exact ⟨vs, eH.trans e, l, t⟩
    | mt ks ds => obtain ⟨vs, e, l, t⟩ := q; exact ⟨vs, eH.trans e, l, t⟩
    | mi C ns ds => obtain ⟨dx, vs, e, l, t⟩ := q; exact ⟨dx, vs, eH.trans e, l, t⟩
theorem Ex.poke {w0 w : Wr} {a : Addr} {o : HO} (x : Ex w0 w) (h0 : w0.H a = none) : Ex w0 { w with H := upd w.H a o } :=
  ⟨x.le, x.io, x.fz, x.nw, x.ni, fun b u h hn => by
    show upd w.H a o b = some u
    rw [upd_ne (fun z => by rw [z, h0] at h; cases h)]
    exact x.kp b u h hn⟩
/-- D is laid behind w0, by itself -/
structure Alone (w0 w : Wr) (a : Addr) : Prop where
  h0 : w0.H a = none
  b : w.B a = none
  i : ∀ n, n < w.S.length → w.ι n ≠ a
theorem Alone.first {K : Frag} {w : Wr} {a : Addr} (d : Wd K w) (h : w.H a = none) : Alone w w a := by
  refine ⟨h, ?_, fun n hn z => ?_⟩
  · cases e : w.B a with
    | none => rfl
    | some u => rw [d.fz _ _ e] at h; cases h
  · obtain ⟨u, e⟩ := d.there hn
    rw [z, h] at e; cases e
theorem Alone.next {w0 w w' : Wr} {a : Addr} {o : HO} (l : Alone w0 w a) (x : Ex w w') (h : w.H a = some o) : Alone w0 w' a := by
  refine ⟨l.h0, ?_, fun n hn z => ?_⟩
  · cases e : w'.B a with
    | none => rfl
    | some u =>
      rcases x.nw a u e with q | q
      · rw [l.b] at q; cases q
      · rw [h] at q; cases q
  · by_cases hc : n < w.S.length
    · rw [x.io n hc] at z; exact l.i n hc z
    · have := x.ni n (Nat.not_lt.mp hc) hn
      rw [z, h] at this; cases this
theorem Lo.wipe {K : Frag} {w : Wr} {σ : L2.St} {ρ : Rho} (l : Lo K w σ ρ) : ∀ vs : List Nat, Lo K w (L2.wipe σ vs) (wipeR ρ vs)
  | [] => l
  | v :: vs => by
    have ih := Lo.wipe l vs
    refine ⟨by rw [wipe_length]; show _ = ((wipeR ρ vs).set v none).length; rw [List.length_set, ← ih.len, wipe_length], fun i d h => ?_⟩
    have h : ((wipeR ρ vs).set v none)[i]? = some (some d) := h
    by_cases hi : v = i
    · subst hi
      by_cases hl : v < (wipeR ρ vs).length
      · rw [List.getElem?_set_self hl] at h; cases h
      · rw [List.getElem?_eq_none (by simpa using Nat.not_lt.mp hl)] at h; cases h
    · rw [List.getElem?_set_ne hi] at h
      obtain ⟨u, e, r⟩ := ih.sl i d h
      refine ⟨u, ?_, r⟩
      show ((L2.wipe σ vs).set v none)[i]? = _
      rw [List.getElem?_set_ne hi]
      exact e
section
variable {X : Cx} {W W' : WX} {tg iter elt : Expr} {ifs : List Expr} {scope : Scope} {own : List (Str × Nat)} {it : Rho → M (List D)} {g : D → Rho → M Rho} {t : Rho → M Bool} {m : Rho → M D} {pos : Pos}
abbrev WN : WX := fun _ _ _ _ => False
def PDTs (X : Cx) (W : WX) (ifs : List Expr) (t : Rho → M Bool) : Prop := PTs X ifs (tT X.K W t)
theorem PTs.imp {X : Cx} {e : List Expr} {t t' : TT} (h : PTs X e t) (i : ∀ σ H Q, t' σ H Q → t σ H Q) : PTs X e t' := ⟨fun pins s σ H Q I q => h.run pins s σ H Q I (i _ _ _ q)⟩
theorem pdts_nil : PDTs X W [] (fun _ => pure true) := PTs.imp pts_nil fun σ H Q ⟨w, ρ, a, h⟩ => by
  have : Q true w.H := h w rfl (Ex.refl w) a.2.1
  rw [a.1] at this
  exact this
theorem pdts_one {c : Expr} (h : PDT X W c t) : PDTs X W [c] t := pts_one h
end
/-! targets of a comprehension: own names, tuples of them -/
theorem wipe_get {σ : L2.St} : ∀ (vs : List Nat) (j : Nat), (L2.wipe σ vs)[j]? = if j ∈ vs then (σ[j]?).map (fun _ => none) else σ[j]?
  | [], j => by rw [if_neg (by simp)]; rfl
  | v :: vs, j => by
    show ((L2.wipe σ vs).set v none)[j]? = _
    by_cases hj : v = j
    · subst hj
      rw [if_pos List.mem_cons_self]
      by_cases hl : v < (L2.wipe σ vs).length
      · rw [List.getElem?_set_self hl]
        rw [wipe_length] at hl
        rw [List.getElem?_eq_getElem hl]
        rfl
      · rw [List.getElem?_eq_none (by simpa using Nat.not_lt.mp hl)]
        rw [wipe_length] at hl
        rw [List.getElem?_eq_none (Nat.not_lt.mp hl)]
        rfl
    · rw [List.getElem?_set_ne hj, wipe_get vs j]
      by_cases hm : j ∈ vs
      · rw [if_pos hm, if_pos (List.mem_cons_of_mem _ hm)]
      · rw [if_neg hm, if_neg (fun z => (List.mem_cons.mp z).elim (fun q => hj q.symm) hm)]
theorem wipe_set {σ : L2.St} {vs : List Nat} {i : Nat} {x : Option V} (hi : i ∈ vs) : L2.wipe (σ.set i x) vs = L2.wipe σ vs := by
  refine List.ext_getElem? fun j => ?_
  rw [wipe_get, wipe_get]
  by_cases hj : j ∈ vs
  · rw [if_pos hj, if_pos hj]
    by_cases z : i = j
    · subst z
      by_cases hl : i < σ.length
      · rw [List.getElem?_set_self hl, List.getElem?_eq_getElem hl]; rfl
      · rw [List.getElem?_eq_none (by simpa using Nat.not_lt.mp hl), List.getElem?_eq_none (Nat.not_lt.mp hl)]
    · rw [List.getElem?_set_ne z]
  · rw [if_neg hj, if_neg hj, List.getElem?_set_ne (fun z => hj (by rw [← z]; exact hi))]
theorem wipe_wipe {σ : L2.St} {vs : List Nat} : L2.wipe (L2.wipe σ vs) vs = L2.wipe σ vs := by
  refine List.ext_getElem? fun j => ?_
  rw [wipe_get]
  by_cases hj : j ∈ vs
  · rw [if_pos hj, wipe_get, if_pos hj]
    cases σ[j]? <;> rfl
  · rw [if_neg hj]
structure OwnT (K : Frag) (vs : List Nat) (G : TG) (b : D → Rho → Option Rho) : Prop where
  at_ : ∀ (v : V) (σ : L2.St) (H : Hp) (Q : L2.St → Hp → Prop) (w : Wr) (ρ : Rho) (d : D) (ρ' : Rho), At K w σ ρ H → Dt K w v d → b d ρ = some ρ' → (∀ σ', Lo K w σ' ρ' → L2.wipe σ' vs = L2.wipe σ vs → Q σ' H) → G v σ H Q
structure OwnTs (K : Frag) (vs : List Nat) (G : TGs) (b : List D → Rho → Option Rho) : Prop where
  at_ : ∀ (v : List V) (σ : L2.St) (H : Hp) (Q : L2.St → Hp → Prop) (w : Wr) (ρ : Rho) (d : List D) (ρ' : Rho), At K w σ ρ H → Dts K w v d → b d ρ = some ρ' → (∀ σ', Lo K w σ' ρ' → L2.wipe σ' vs = L2.wipe σ vs → Q σ' H) → G v σ H Q
def bName (i : Nat) : D → Rho → Option Rho := fun d ρ => some (ρ.set i (some d))
def bNil : List D → Rho → Option Rho := fun ds ρ => match ds with
  | [] => some ρ
  | _ => none
def bCons (b : D → Rho → Option Rho) (bs : List D → Rho → Option Rho) : List D → Rho → Option Rho := fun ds ρ => match ds with
  | d :: ds => (b d ρ).bind fun ρ' => bs ds ρ'
  | [] => none
def bTup (n : Nat) (bs : List D → Rho → Option Rho) : D → Rho → Option Rho := fun d ρ => match d with
  | .tup ds => if ds.length = n then bs ds ρ else none
  | _ => none
section
variable {K : Frag} {vs : List Nat} {G : TG} {Gs : TGs} {b : D → Rho → Option Rho} {bs : List D → Rho → Option Rho}
theorem ot_name {i : Nat} (hi : i ∈ vs := by decide) : OwnT K vs (gName i) (bName i) := ⟨fun v σ H Q w ρ d ρ' a hv e k => by
  cases e
  exact k _ (a.2.2.set hv) (wipe_set hi)⟩
theorem ots_nil : OwnTs K vs gNil bNil := ⟨fun v σ H Q w ρ d ρ' a hv e k => by
  cases d with
  | nil => cases hv; cases e; exact ⟨rfl, k _ a.2.2 rfl⟩
  | cons _ _ => cases e⟩
theorem ots_cons (h : OwnT K vs G b) (hs : OwnTs K vs Gs bs) : OwnTs K vs (gCons G Gs) (bCons b bs) := ⟨fun v σ H Q w ρ d ρ' a hv e k => by
  cases d with
  | nil => cases e
  | cons d ds =>
    cases hv with
    | cons h1 h2 =>
      unfold bCons at e
      rw [Option.bind_eq_some_iff] at e
      obtain ⟨ρ1, e1, e2⟩ := e
      exact ⟨_, _, rfl, h.at_ _ σ H _ w ρ d ρ1 a h1 e1 fun σ1 l1 z1 => hs.at_ _ σ1 H Q w ρ1 ds ρ' ⟨a.1, a.2.1, l1⟩ h2 e2 fun σ2 l2 z2 => k σ2 l2 (z2.trans z1)⟩⟩
theorem ot_tup {n : Nat} (hs : OwnTs K vs Gs bs) : OwnT K vs (gTup K n Gs) (bTup n bs) := ⟨fun v σ H Q w ρ d ρ' a hv e k => by
  cases d with
  | tup ds =>
    have e : (if ds.length = n then bs ds ρ else none) = some ρ' := e
    by_cases hl : ds.length = n
    · rw [if_pos hl] at e
      cases hv with
      | tup q _ t => exact ⟨_, _, rfl, by rw [← a.1]; exact SqT.same a.2.1.fz q, by rw [t.length]; exact hl, hs.at_ _ σ H Q w ρ ds ρ' a t e k⟩
    · rw [if_neg hl] at e; cases e
  | _ => cases e⟩
end
section
variable {X : Cx} {W W' : WX} {tg iter elt : Expr} {ifs : List Expr} {scope : Scope} {own : List (Str × Nat)} {it : Rho → M (List D)} {G : TG} {b : D → Rho → Option Rho} {t : Rho → M Bool} {m : Rho → M D} {pos : Pos}
def oneM (b : D → Rho → Option Rho) (t : Rho → M Bool) (m : Rho → M D) (ρ : Rho) (d : D) : M (Option D) := lift (b d ρ) >>= fun ρ' => t ρ' >>= fun k => if k = true then m ρ' >>= fun r => pure (some r) else pure none
def lcMM (vs : List Nat) (it : Rho → M (List D)) (b : D → Rho → Option Rho) (t : Rho → M Bool) (m : Rho → M D) : Rho → M D := fun ρ => it ρ >>= fun ds => compM (oneM b t m (wipeR ρ vs)) ds >>= mkL
theorem compM_cons (f : D → M (Option D)) (d : D) (ds acc : List D) : (compM f (d :: ds) >>= fun rs => mkL (acc ++ rs)) = (noX (f d) >>= fun o => compM f ds >>= fun rs => mkL ((acc ++ o.toList) ++ rs)) := by
  simp only [compM, bind_assoc', pure_bind', List.append_assoc]
theorem noX_ok {α : Type} {m : M α} {S S1 : List MO} {a : α} (h : m S = .ok a S1) : noX m S = .ok a S1 := by unfold noX; rw [h]
theorem noX_exc {α : Type} {m : M α} {S S1 : List MO} {C : Value} {fs : Option (List Str × List D)} (h : m S = .exc C fs S1) : noX m S = .bad := by unfold noX; rw [h]
theorem noX_no {α : Type} {m : M α} {S : List MO} (h : m S = .bad) : noX m S = .bad := by unfold noX; rw [h]
theorem compM_noexc (f : D → M (Option D)) : ∀ (ds : List D) (S : List MO) {C fs S'}, compM f ds S ≠ .exc C fs S'
  | [], S, C, fs, S' => fun h => nomatch h
  | d :: ds, S, C, fs, S' => fun h => by
    have h : (noX (f d) S).andThen (fun o => compM f ds >>= fun rs => pure (o.toList ++ rs)) = .exc C fs S' := h
    cases e : f d S with
    | ok o S1 =>
      rw [noX_ok e] at h
      have h : (compM f ds S1).andThen (fun rs => pure (o.toList ++ rs)) = .exc C fs S' := h
      cases e2 : compM f ds S1 with
      | ok rs S2 => rw [e2] at h; cases h
      | exc C2 fs2 S2 => exact compM_noexc f ds S1 e2
      | bad => rw [e2] at h; cases h
    | exc C2 fs2 S2 => rw [noX_exc e] at h; cases h
    | bad => rw [noX_no e] at h; cases h
theorem comp_small {K : Frag} {W : XK} {w : Wr} {f : D → M (Option D)} {ds acc : List D} {S : List MO} {k : D → Wr → Prop} (h : Pst K W w ((compM f ds >>= fun rs => mkL (acc ++ rs)) S) k) : acc.length ≤ sizeLine := by
  rw [bind_app] at h
  cases e : compM f ds S with
  | ok rs S1 =>
    rw [e] at h
    have h : Pst K W w (mkL (acc ++ rs) S1) k := h
    unfold mkL at h
    by_cases hl : (acc ++ rs).length ≤ sizeLine
    · rw [List.length_append] at hl; omega
    · rw [if_neg hl] at h; exact h.elim
  | exc C fs S1 => exact absurd e (compM_noexc f ds S)
  | bad => rw [e] at h; exact h.elim
theorem Pst.splitN {K : Frag} {W W' : XK} {w0 w : Wr} {α β : Type} {m : M α} {f : α → M β} {k : β → Wr → Prop} (h : Pst K W w0 ((noX m >>= f) w.S) k) (x : Ex w0 w) (d : Wd K w) :
    Pst K W' w (m w.S) fun a w' => Ex w0 w' ∧ Pst K W w0 (f a w'.S) k := by
  rw [bind_app] at h
  cases e : m w.S with
  | ok a S =>
    simp only [noX, e] at h
    intro w' e' x' d'
    rw [e']
    exact ⟨x.trans d x', h⟩
  | exc C fs S => simp only [noX, e] at h; exact h.elim
  | bad => simp only [noX, e] at h; exact h.elim
/-- the reading of a comprehension, whatever is walked -/
theorem tLc_of {K : Frag} {σ : L2.St} {H : Hp} {Q : VK} (ot : OwnT K (own.map (·.2)) G b) (h : tE K W (lcMM (own.map (·.2)) it b t m) σ H Q) : tLc (iM K W it) G (tT K WN t) (tE K WN m) (own.map (·.2)) σ H Q := by
  obtain ⟨w, ρ, a, h⟩ := h
  refine ⟨w, ρ, a, (Pst.bind (m := it ρ) (f := fun ds => compM (oneM b t m (wipeR ρ (own.map (·.2)))) ds >>= mkL) h).mono fun ds w0 e0 d0 h0 J wk D hD => ?_⟩
  obtain ⟨G', Y, wk, hG, hY⟩ := wk
  have l0 : Lo K w0 (L2.wipe σ (own.map (·.2))) (wipeR ρ (own.map (·.2))) := (a.2.2.ex e0).wipe _
  have al0 := Alone.first d0 hD
  refine lc_it wk (fun i H => ∃ w1 acc vs, w1.H = H ∧ Wd K w1 ∧ Ex w0 w1 ∧ Alone w0 w1 D ∧ H D = some (.lst vs) ∧ Dts K w1 vs acc ∧ acc.length ≤ sizeLine ∧ Pst K (WE W σ) w0 ((compM (oneM b t m (wipeR ρ (own.map (·.2)))) (ds.drop i) >>= fun rs => mkL (acc ++ rs)) w1.S) (kE K Q))
    ⟨{ w0 with H := upd w0.H D (.lst []) }, [], [], rfl, d0.poke al0.b al0.i, (Ex.refl _).poke hD, ⟨hD, al0.b, al0.i⟩, upd_same, .nil, Nat.zero_le _, h0⟩ ?_ ?_ ?_
  · rintro i H hi ⟨w1, acc, vs, rfl, d1, x1, _⟩
    exact hG w1 x1 d1
  · rintro i x H1 H' hi ⟨w1, acc, vs, rfl, d1, x1, al1, hD1, t1, hl1, h1⟩ y
    obtain ⟨w2, d, rfl, hS, x12, d2, hd, hx⟩ := hY i w1 x H' hi x1 d1 y
    have hd' : ds.drop i = d :: ds.drop (i + 1) := by
      rw [List.drop_eq_getElem_cons hi]
      congr 1
      rw [List.getElem?_eq_getElem hi] at hd
      exact Option.some.inj hd
    have x2 := x1.trans d1 x12
    have al2 := al1.next x12 hD1
    have hD2 : w2.H D = some (.lst vs) := x12.kp _ _ hD1 fun n hn z => al1.i n hn z.symm
    have t2 := Dts.ex x12 t1
    rw [hd', ← hS, compM_cons] at h1
    have h2 := Pst.splitN (W' := WE WN (L2.wipe σ (own.map (·.2)))) (m := oneM b t m (wipeR ρ (own.map (·.2))) d) h1 x2 d2
    obtain ⟨ρ', hb, h3⟩ := Pst.lift (f := fun ρ' => t ρ' >>= fun k => if k = true then m ρ' >>= fun r => pure (some r) else pure none) h2
    refine ot.at_ x _ _ _ w2 _ d ρ' ⟨rfl, d2, l0.ex x2⟩ hx hb fun σ2 l2 z2 => ⟨?_, ?_⟩
    · rw [z2, wipe_wipe]
    have a2 : At K w2 σ2 ρ' w2.H := ⟨rfl, d2, l2⟩
    have h3 : Pst K (WE WN σ2) w2 ((t ρ' >>= fun k => if k = true then m ρ' >>= fun r => pure (some r) else pure none) w2.S) _ := h3
    refine tT_bind (f := fun ρ' k => if k = true then m ρ' >>= fun r => pure (some r) else pure none) a2 h3 fun k w3 x23 a3 h4 => ?_
    have hD3 : w3.H D = some (.lst vs) := x23.kp _ _ hD2 fun n hn z => al2.i n hn z.symm
    have al3 := al2.next x23 hD2
    have t3 := Dts.ex x23 t2
    cases k with
    | false =>
      rw [if_neg Bool.false_ne_true] at h4 ⊢
      obtain ⟨x3, h5⟩ := h4 w3 rfl (Ex.refl _) a3.2.1
      refine ⟨w3, acc, vs, rfl, a3.2.1, x3, al3, hD3, t3, hl1, ?_⟩
      simpa using h5
    | true =>
      rw [if_pos rfl] at h4 ⊢
      refine tE_bind (f := fun _ r => pure (some r)) a3 h4 fun r y w4 x34 a4 hr h5 => ?_
      obtain ⟨x4, h6⟩ := h5 w4 rfl (Ex.refl _) a4.2.1
      have hD4 : w4.H D = some (.lst vs) := x34.kp _ _ hD3 fun n hn z => al3.i n hn z.symm
      have al4 := al3.next x34 hD3
      have t4 := Dts.ex x34 t3
      have hsm := comp_small h6
      rw [List.length_append] at hsm
      have hl4 : (acc ++ [r]).length ≤ sizeLine := by rw [List.length_append]; exact hsm
      refine ⟨vs, hD4, ?_, ?_⟩
      · rw [t4.length]
        have : ([r] : List PD.D).length = 1 := rfl
        have e1 : (Option.toList (some r)).length = 1 := rfl
        omega
      · exact ⟨{ w4 with H := upd w4.H D (.lst (vs ++ [y])) }, acc ++ [r], vs ++ [y], rfl, a4.2.1.poke al4.b al4.i, x4.poke hD, ⟨hD, al4.b, al4.i⟩, upd_same, t4.append (.cons hr .nil), hl4, h6⟩
  · rintro H1 ⟨w1, acc, vs, rfl, d1, x1, al1, hD1, t1, hl1, h1⟩
    rw [List.drop_length] at h1
    have h1 : Pst K (WE W σ) w0 (mkL (acc ++ []) w1.S) (kE K Q) := h1
    rw [List.append_nil] at h1
    -- D is settled now
    have nS : ∀ n, n < w1.S.length → w1.ι n ≠ D := al1.i
    unfold mkL at h1
    rw [if_pos hl1] at h1
    have up : ∀ a o, w1.B a = some o → upd w1.B D (.lst vs) a = some o := fun a o q => by
      rw [upd_ne (fun z => by rw [z, al1.b] at q; cases q)]; exact q
    refine h1 { w1 with B := upd w1.B D (.lst vs) } rfl ⟨x1.le, x1.io, fun a o q => up a o (x1.fz a o q), fun a o q => ?_, x1.ni, x1.kp⟩ ⟨fun a o q => ?_, fun n hn' => ?_, fun n o q => ?_, d1.inj⟩ _ ?_
    · have q : upd w1.B D (.lst vs) a = some o := q
      by_cases z : a = D
      · subst z; exact .inr hD
      · rw [upd_ne z] at q; exact x1.nw a o q
    · have q : upd w1.B D (.lst vs) a = some o := q
      by_cases z : a = D
      · subst z; rw [upd_same] at q; cases q; exact hD1
      · rw [upd_ne z] at q; exact d1.fz a o q
    · show upd w1.B D (.lst vs) (w1.ι n) = none
      rw [upd_ne (nS n hn')]
      exact d1.sp n hn'
    · have mv : ∀ {us : List V} {es : List PD.D}, Dts K w1 us es → Dts K { w1 with B := upd w1.B D (.lst vs) } us es := fun t => Dats.mono (Nat.le_refl _) (fun _ _ => rfl) up t
      have q2 := d1.ob n o q
      cases o with
      | ml _ => obtain ⟨us, e, t⟩ := q2; exact ⟨us, e, mv t⟩
      | mk _ _ => obtain ⟨us, e, l, t⟩ := q2; exact ⟨us, e, l, mv t⟩
      | mt _ _ => obtain ⟨us, e, l, t⟩ := q2; exact ⟨us, e, l, mv t⟩
      | mi _ _ _ => obtain ⟨dx, us, e, l, t⟩ := q2; exact ⟨dx, us, e, l, mv t⟩
    · exact .lst (by show upd w1.B D (.lst vs) D = _; exact upd_same) hl1 (Dats.mono (Nat.le_refl _) (fun _ _ => rfl) up t1)
theorem pd_lc (own : List (Str × Nat)) (hc : X.calm = true) (hN : X.N.Nodup) (hi : PDI X W tg iter it) (ok : BlkOk X.N X.env.scope scope own)
    (hg : ∀ (s : Shared) (H : Hp) (C : Addr) (cl : List (Str × Addr)) (fp : List Addr), PG (X.blk s H scope (compEnvC scope cl C X.env) fp) tg G) (ot : OwnT X.K (own.map (·.2)) G b)
    (ht : ∀ (s : Shared) (H : Hp) (C : Addr) (cl : List (Str × Addr)) (fp : List Addr), PDTs (X.blk s H scope (compEnvC scope cl C X.env) fp) WN ifs t)
    (he : ∀ (s : Shared) (H : Hp) (C : Addr) (cl : List (Str × Addr)) (fp : List Addr), PDE (X.blk s H scope (compEnvC scope cl C X.env) fp) WN elt m) (hs : ∀ x, foldedSetIterable iter X.env x = pure x := by intro _; rfl) :
    PDE X W (.ListComp elt [⟨tg, iter, ifs, 0⟩] scope pos) (lcMM (own.map (·.2)) it b t m) :=
  PE.imp (pe_lc (tt := tT X.K WN t) (te := tE X.K WN m) hc hN hi ok hg ht he hs) fun σ H Q h => tLc_of ot h
/-- name = [..] on one line -/
theorem pds_setLc (i : Nat) {y : Str} {py spos : Pos} (own : List (Str × Nat)) (hc : X.calm = true) (hN : X.N.Nodup) (hsw : swapsWith (.ListComp elt [⟨tg, iter, ifs, 0⟩] scope pos) (some (.Name y py)) spos.line X.env = pure true) (hi : PDI X W tg iter it) (ok : BlkOk X.N X.env.scope scope own)
    (hg : ∀ (s : Shared) (H : Hp) (C : Addr) (cl : List (Str × Addr)) (fp : List Addr), PG (X.blk s H scope (compEnvC scope cl C X.env) fp) tg G) (ot : OwnT X.K (own.map (·.2)) G b)
    (ht : ∀ (s : Shared) (H : Hp) (C : Addr) (cl : List (Str × Addr)) (fp : List Addr), PDTs (X.blk s H scope (compEnvC scope cl C X.env) fp) WN ifs t)
    (he : ∀ (s : Shared) (H : Hp) (C : Addr) (cl : List (Str × Addr)) (fp : List Addr), PDE (X.blk s H scope (compEnvC scope cl C X.env) fp) WN elt m)
    (hy : X.N[i]? = some y := by rfl) (hyl : X.env.scope.names.lookup y = some .local := by rfl) (hs : ∀ x, foldedSetIterable iter X.env x = pure x := by intro _; rfl) :
    PDS X W (.Assign [.Name y py] (.ListComp elt [⟨tg, iter, ifs, 0⟩] scope pos) spos) (setS i (lcMM (own.map (·.2)) it b t m)) :=
  PS.imp (ps_setLc (tt := tT X.K WN t) (te := tE X.K WN m) hc hN hy hyl hsw hi ok hg ht he hs) fun Dn σ H ⟨w, ρ, a, h⟩ => by
    refine tLc_of ot ⟨w, ρ, a, (Pst.bind (m := lcMM (own.map (·.2)) it b t m ρ) (f := fun d => pure (Fl.nx (ρ.set i (some d)))) h).mono fun d w1 e1 d1 h1 v hv => ?_⟩
    exact h1 w1 rfl (Ex.refl _) d1 _ ((a.2.2.ex e1).set hv)
end
end PD

set_option Elab.async false
set_option linter.all false
set_option maxRecDepth 100000
namespace PD
open PySem PySem.Spec PyProof.Rows L2
section
variable {X : Cx}
/-! ### built-in functions, by values -/
/-- one datum in, from the world as it stands -/
theorem callM_ok {f : Value} {g : List MO → List D → Option D} (h : ∀ (w : Wr) (xs : List V) (ds : List D) (d : D) (Q : VK), Wd X.K w → Dts X.K w xs ds → g w.S ds = some d → (∀ w' v, w'.S = w.S → Ex w w' → Wd X.K w' → Dt X.K w' v d → Q v w'.H) →
    ∃ r, CallR X f r ∧ r xs w.H Q) : CallR X f (callM X.K g) := by
  rintro pins s σ H xs us Q I rv ⟨w, ds, d, rfl, wd, t, e, k⟩
  obtain ⟨r, hr, q⟩ := h w xs ds d Q wd t e k
  exact hr pins s σ _ xs us Q I rv q
def lenOf (S : List MO) : D → Option Nat
  | .str z => some z.length
  | x => (seqOf S x).map List.length
def lenD (S : List MO) : List D → Option D
  | [x] => (lenOf S x).map fun (n : Nat) => D.int (n : Nat)
  | _ => none
theorem lenOf_ok {K : Frag} {w : Wr} (d : Wd K w) {v : V} {x : D} {n : Nat} (h : Dt K w v x) (e : lenOf w.S x = some n) : LenV K v w.H n := by
  unfold lenOf at e
  split at e
  · cases e
    obtain ⟨rfl, hl⟩ := h.str_of
    exact ⟨hl, rfl⟩
  · rw [Option.map_eq_some_iff] at e
    obtain ⟨xs, e, rfl⟩ := e
    obtain ⟨a, vs, rfl, q | q, t⟩ := seqOf_ok d h e
    · exact .inr ⟨vs, q, t.length.symm⟩
    · exact .inl ⟨vs, q, t.length.symm⟩
theorem c_len : CallR X (.builtin "len") (callM X.K lenD) := callM_ok fun w xs ds d Q wd t e k => by
  unfold lenD at e
  split at e
  · rw [Option.map_eq_some_iff] at e
    obtain ⟨n, e, rfl⟩ := e
    obtain ⟨v, rfl, hv⟩ := Dats.one t
    exact ⟨_, call_len, v, n, rfl, lenOf_ok wd hv e, k w _ rfl (Ex.refl _) wd (.int _)⟩
  · cases e
def absD (_ : List MO) : List D → Option D
  | [.int i] => some (.int (if i < 0 then -i else i))
  | _ => none
theorem c_abs : CallR X (.builtin "abs") (callM X.K absD) := callM_ok fun w xs ds d Q wd t e k => by
  unfold absD at e
  split at e
  · cases e
    obtain ⟨v, rfl, hv⟩ := Dats.one t
    exact ⟨_, call_abs, _, by rw [hv.int_of], k w _ rfl (Ex.refl _) wd (.int _)⟩
  · cases e
def max2D (_ : List MO) : List D → Option D
  | [.int i, .int j] => some (.int (if j > i then j else i))
  | _ => none
theorem c_max2 (hc : X.calm = true) : CallR X (.builtin "max") (callM X.K max2D) := callM_ok fun w xs ds d Q wd t e k => by
  unfold max2D at e
  split at e
  · cases e
    obtain ⟨v, u, rfl, hv, hu⟩ := Dats.two t
    exact ⟨_, call_max2 hc, _, _, by rw [hv.int_of, hu.int_of], k w _ rfl (Ex.refl _) wd (.int _)⟩
  · cases e
def min2D (_ : List MO) : List D → Option D
  | [.int i, .int j] => some (.int (if j < i then j else i))
  | _ => none
theorem c_min2 (hc : X.calm = true) : CallR X (.builtin "min") (callM X.K min2D) := callM_ok fun w xs ds d Q wd t e k => by
  unfold min2D at e
  split at e
  · cases e
    obtain ⟨v, u, rfl, hv, hu⟩ := Dats.two t
    exact ⟨_, call_min2 hc, _, _, by rw [hv.int_of, hu.int_of], k w _ rfl (Ex.refl _) wd (.int _)⟩
  · cases e
def intD (_ : List MO) : List D → Option D
  | [.int i] => some (.int i)
  | [.bl b] => some (.int (if b then 1 else 0))
  | _ => none
theorem Dat.bl_of' {K : Frag} {ι : Nat → Addr} {N : Nat} {B : Hp} {v : V} {b : Bool} (h : Dat K ι N B v (.bl b)) : v = .bl b := h.bl_of
theorem c_int : CallR X (.type "int") (callM X.K intD) := callM_ok fun w xs ds d Q wd t e k => by
  unfold intD at e
  split at e
  · cases e
    obtain ⟨v, rfl, hv⟩ := Dats.one t
    exact ⟨_, call_int1, .inl ⟨_, by rw [hv.int_of], k w _ rfl (Ex.refl _) wd (.int _)⟩⟩
  · cases e
    obtain ⟨v, rfl, hv⟩ := Dats.one t
    exact ⟨_, call_int1, .inr ⟨_, by rw [hv.bl_of], k w _ rfl (Ex.refl _) wd (.int _)⟩⟩
  · cases e
/-! bools of a list -/
def boolsOf : List D → Option (List Bool)
  | [] => some []
  | .bl b :: ds => (boolsOf ds).map (b :: ·)
  | _ :: _ => none
theorem boolsOf_ok {K : Frag} {w : Wr} : ∀ {vs : List V} {ds : List D} {bs : List Bool}, Dts K w vs ds → boolsOf ds = some bs → vs = bs.map V.bl
  | _, [], bs, t, e => by cases t; cases e; rfl
  | _, d :: ds, bs, t, e => by
    cases t with
    | cons h t =>
      cases d with
      | bl b =>
        simp only [boolsOf, Option.map_eq_some_iff] at e
        obtain ⟨bs', e, rfl⟩ := e
        rw [h.bl_of, boolsOf_ok t e]
        rfl
      | _ => simp [boolsOf] at e
theorem boolsOf_map {α : Type} (f : α → Bool) (xs : List α) : boolsOf (xs.map fun x => D.bl (f x)) = some (xs.map f) := by
  induction xs with
  | nil => rfl
  | cons x xs ih => simp only [List.map_cons, boolsOf, ih]; rfl
/-- a list, not a tuple -/
def listOf (S : List MO) : D → Option (List D)
  | .lst xs => some xs
  | .fl xs => some xs
  | .ob n => match S[n]? with
    | some (.ml xs) => some xs
    | _ => none
  | _ => none
theorem listOf_ok {K : Frag} {w : Wr} (d : Wd K w) {v : V} {x : D} {xs : List D} (h : Dt K w v x) (e : listOf w.S x = some xs) : ∃ a vs, v = .ref a ∧ SqL K w.H a vs ∧ Dts K w vs xs := by
  cases h with
  | lst q _ t => cases e; exact ⟨_, _, rfl, SqL.of (d.fz _ _ q), t⟩
  | fl q _ t => cases e; exact ⟨_, _, rfl, SqL.same d.fz q, t⟩
  | ob n hn =>
    simp only [listOf] at e
    cases q : w.S[n]? with
    | none => rw [q] at e; cases e
    | some o =>
      rw [q] at e
      cases o with
      | ml ys =>
        cases e
        obtain ⟨vs, e1, t⟩ := d.ob n _ q
        exact ⟨_, vs, rfl, SqL.of e1, t⟩
      | _ => cases e
  | _ => cases e
def allD (S : List MO) : List D → Option D
  | [x] => (listOf S x).bind fun xs => (boolsOf xs).map fun bs => .bl (bs.all id)
  | _ => none
def anyD (S : List MO) : List D → Option D
  | [x] => (listOf S x).bind fun xs => (boolsOf xs).map fun bs => .bl (bs.any id)
  | _ => none
theorem c_all (hc : X.calm = true) : CallR X (.builtin "all") (callM X.K allD) := callM_ok fun w xs ds d Q wd t e k => by
  unfold allD at e
  split at e
  · rw [Option.bind_eq_some_iff] at e
    obtain ⟨ys, e, e2⟩ := e
    rw [Option.map_eq_some_iff] at e2
    obtain ⟨bs, e2, rfl⟩ := e2
    obtain ⟨v, rfl, hv⟩ := Dats.one t
    obtain ⟨a, vs, rfl, q, t2⟩ := listOf_ok wd hv e
    have ev := boolsOf_ok t2 e2
    subst ev
    exact ⟨_, cr_all hc, a, bs, rfl, q, k w _ rfl (Ex.refl _) wd (.bl _)⟩
  · cases e
theorem c_any (hc : X.calm = true) : CallR X (.builtin "any") (callM X.K anyD) := callM_ok fun w xs ds d Q wd t e k => by
  unfold anyD at e
  split at e
  · rw [Option.bind_eq_some_iff] at e
    obtain ⟨ys, e, e2⟩ := e
    rw [Option.map_eq_some_iff] at e2
    obtain ⟨bs, e2, rfl⟩ := e2
    obtain ⟨v, rfl, hv⟩ := Dats.one t
    obtain ⟨a, vs, rfl, q, t2⟩ := listOf_ok wd hv e
    have ev := boolsOf_ok t2 e2
    subst ev
    exact ⟨_, cr_any hc, a, bs, rfl, q, k w _ rfl (Ex.refl _) wd (.bl _)⟩
  · cases e
/-- tuple(x): a tuple is itself -/
def tupleD (S : List MO) : List D → Option D
  | [.tup xs] => some (.tup xs)
  | [x] => (listOf S x).bind fun xs => if xs.length ≤ sizeLine then some (.tup xs) else none
  | _ => none
theorem c_tuple : CallR X (.type "tuple") (callM X.K tupleD) := callM_ok fun w xs ds d Q wd t e k => by
  unfold tupleD at e
  split at e
  · cases e
    obtain ⟨v, rfl, hv⟩ := Dats.one t
    obtain ⟨a, vs, rfl, q, t2⟩ := hv.tup_of
    exact ⟨_, call_tuple_of, a, vs, rfl, .inr ⟨SqT.same wd.fz q, k w _ rfl (Ex.refl _) wd hv⟩⟩
  · rw [Option.bind_eq_some_iff] at e
    obtain ⟨ys, e, e2⟩ := e
    split at e2
    · rename_i hl
      cases e2
      obtain ⟨v, rfl, hv⟩ := Dats.one t
      obtain ⟨a, vs, rfl, q, t2⟩ := listOf_ok wd hv e
      refine ⟨_, call_tuple_of, a, vs, rfl, .inl ⟨q, fun p hp => ?_⟩⟩
      obtain ⟨w2, hS, hH, x2, d2, t3⟩ := new_tup wd hp t2 hl
      have := k w2 _ hS x2 d2 t3
      rw [hH] at this
      exact this
    · cases e2
  · cases e
def listD (S : List MO) : List D → Option D
  | [x] => (seqOf S x).bind fun xs => if xs.length ≤ sizeLine then some (.lst xs) else none
  | _ => none
theorem c_list : CallR X (.type "list") (callM X.K listD) := callM_ok fun w xs ds d Q wd t e k => by
  unfold listD at e
  split at e
  · rw [Option.bind_eq_some_iff] at e
    obtain ⟨ys, e, e2⟩ := e
    split at e2
    · rename_i hl
      cases e2
      obtain ⟨v, rfl, hv⟩ := Dats.one t
      obtain ⟨a, vs, rfl, q, t2⟩ := seqOf_ok wd hv e
      refine ⟨_, call_list_of, a, vs, rfl, q.symm, fun p hp => ?_⟩
      obtain ⟨w2, hS, hH, x2, d2, t3⟩ := new_lst wd hp t2 hl
      have := k w2 _ hS x2 d2 t3
      rw [hH] at this
      exact this
    · cases e2
  · cases e
/-! isinstance of a datum and a built-in class -/
def tyName (S : List MO) : D → Option String
  | .non => some "NoneType"
  | .bl _ => some "bool"
  | .int _ => some "int"
  | .str _ => some "str"
  | .tup _ => some "tuple"
  | .lst _ => some "list"
  | .fl _ => some "list"
  | .dk _ _ => some "dict"
  | .dt _ _ => some "dict"
  | .ob n => match S[n]? with
    | some (.ml _) => some "list"
    | some (.mk _ _) => some "dict"
    | some (.mt _ _) => some "dict"
    | _ => none
  | _ => none
theorem tyName_ok {K : Frag} {w : Wr} (d : Wd K w) {v : V} {x : D} {T : String} (h : Dt K w v x) (e : tyName w.S x = some T) : TyX K w.H v (.type T) := by
  cases h with
  | non => cases e; exact .base .non
  | bl b => cases e; exact .base (.bl b)
  | int i => cases e; exact .base (.int i)
  | str z hz => cases e; exact .base (.str z)
  | tup q _ t =>
    cases e
    rcases q with (q | ⟨o, q⟩) | ⟨o, its, n, hk, hc, _⟩
    · exact .base (.tup (d.fz _ _ q))
    · exact .fTuple (d.fz _ _ q)
    · exact .kTuple hk hc
  | lst q _ t => cases e; exact .base (.lst (d.fz _ _ q))
  | fl q _ t =>
    cases e
    rcases q with (q | ⟨o, q⟩) | ⟨o, its, n, hk, hc, _⟩
    · exact .base (.lst (d.fz _ _ q))
    · exact .base (.frz (d.fz _ _ q))
    · exact .kList hk hc
  | dk q _ _ t => cases e; exact .base (.dK (d.fz _ _ q))
  | dt q _ _ t => cases e; exact .base (.dT (d.fz _ _ q))
  | ob n hn =>
    simp only [tyName] at e
    cases q : w.S[n]? with
    | none => rw [q] at e; cases e
    | some o =>
      rw [q] at e
      have z := d.ob n _ q
      cases o with
      | ml ys => cases e; obtain ⟨vs, e1, t⟩ := z; exact .base (.lst e1)
      | mk _ _ => cases e; obtain ⟨vs, e1, _, t⟩ := z; exact .base (.dK e1)
      | mt _ _ => cases e; obtain ⟨vs, e1, _, t⟩ := z; exact .base (.dT e1)
      | mi _ _ _ => cases e
  | _ => cases e
def isiD (S : List MO) : List D → Option D
  | [x, .ty T] => (tyName S x).bind fun a => (kitB a T).map .bl
  | _ => none
theorem c_isi : CallR X (.builtin "isinstance") (callM X.K isiD) := callM_ok fun w xs ds d Q wd t e k => by
  unfold isiD at e
  split at e
  · rw [Option.bind_eq_some_iff] at e
    obtain ⟨a, e, e2⟩ := e
    rw [Option.map_eq_some_iff] at e2
    obtain ⟨b, e2, rfl⟩ := e2
    obtain ⟨v, u, rfl, hv, hu⟩ := Dats.two t
    rw [hu.ty_of]
    exact ⟨_, call_isi, v, _, _, _, b, rfl, .ty _, tyName_ok wd hv e, kit_ty e2, k w _ rfl (Ex.refl _) wd (.bl _)⟩
  · cases e
/-! ### places -/
def ixD (S : List MO) (x y : D) : Option D := match y with
  | .int i => match x with
    | .str z => (atI z.cps.toList i).map fun c => .str ⟨#[c]⟩
    | x => (seqOf S x).bind fun xs => atI xs i
  | _ => none
theorem Dats.atI {K : Frag} {w : Wr} {vs : List V} {ds : List D} {i : Int} {d : D} (t : Dts K w vs ds) (e : L2.atI ds i = some d) : ∃ v, L2.atI vs i = some v ∧ Dt K w v d := by
  unfold L2.atI at e ⊢
  rw [t.length]
  rw [Option.bind_eq_some_iff] at e
  obtain ⟨j, e1, e2⟩ := e
  obtain ⟨v, e3, r⟩ := t.get e2
  exact ⟨v, by rw [e1]; exact e3, r⟩
theorem IxR.imp {r r' : R2} (h : IxR X r) (i : ∀ x y H Q, r' x y H Q → r x y H Q) : IxR X r' := fun v0 sl0 pins s σ H x y v u Q I rx ry q => h v0 sl0 pins s σ H x y v u Q I rx ry (i _ _ _ _ q)
theorem i_ix : IxR X (opM X.K ixD) := IxR.imp ix_seq fun x y H Q ⟨w, dx, dy, d, e, wd, hx, hy, q, k⟩ => by
  subst e
  unfold ixD at q
  split at q
  · split at q
    · rw [Option.map_eq_some_iff] at q
      obtain ⟨c, q, rfl⟩ := q
      exact .inr (.inr ⟨_, _, c, hx.str_of.1, hy.int_of, hx.str_of.2, q, k w _ rfl (Ex.refl _) wd (.str _ (by show 1 ≤ sizeLine; decide))⟩)
    · rw [Option.bind_eq_some_iff] at q
      obtain ⟨xs, q, q2⟩ := q
      obtain ⟨a, vs, rfl, hq, t⟩ := seqOf_ok wd hx q
      obtain ⟨v, e1, r⟩ := t.atI q2
      rcases hq with hq | hq
      · exact .inr (.inl ⟨a, vs, _, v, rfl, hy.int_of, hq, e1, k w _ rfl (Ex.refl _) wd r⟩)
      · exact .inl ⟨a, vs, _, v, rfl, hy.int_of, hq, e1, k w _ rfl (Ex.refl _) wd r⟩
  · cases q
theorem pd_ix {W : WX} {a b : Expr} {ma mb : Rho → M D} {pos : Pos} (ha : PDE X W a ma) (hb : PDE X W b mb) (hs : PlainIx b := by exact fun _ _ => rfl) : PDE X W (.Subscript a b pos) (do2 ma mb ixD) :=
  PE.imp (pe_ix i_ix ha hb hs) fun _ _ _ h => tOp_of h
/-! ### slices -/
def tP (K : Frag) (W : WX) (m : Rho → M (Option Int)) : TO := fun σ H Q => ∃ w ρ, At K w σ ρ H ∧ Pst K (WE W σ) w (m ρ w.S) (fun o w' => Q o w'.H)
def PDP (X : Cx) (W : WX) (e : Option Expr) (m : Rho → M (Option Int)) : Prop := PO X e (tP X.K W m)
theorem PO.imp {e : Option Expr} {t t' : TO} (h : PO X e t) (i : ∀ σ H Q, t' σ H Q → t σ H Q) : PO X e t' := ⟨fun pins s σ H Q I q => h.run pins s σ H Q I (i _ _ _ q)⟩
def intOf : D → M (Option Int)
  | .int i => pure (some i)
  | _ => bad
theorem pdp_none {W : WX} : PDP X W none (fun _ => pure none) := PO.imp po_none fun σ H Q ⟨w, ρ, a, h⟩ => by
  have : Q none w.H := h w rfl (Ex.refl w) a.2.1
  rw [a.1] at this
  exact this
theorem pdp_some {W : WX} {e : Expr} {m : Rho → M D} (h : PDE X W e m) : PDP X W (some e) (fun ρ => m ρ >>= intOf) := PO.imp (po_some h) fun σ H Q ⟨w, ρ, a, h⟩ =>
  tE_bind (f := fun _ d => intOf d) a h fun d v w1 e1 a1 hv h1 => by
    cases d with
    | int i => exact ⟨i, hv.int_of, h1 w1 rfl (Ex.refl _) a1.2.1⟩
    | _ => exact h1.elim
def cutL {α : Type} (xs : List α) (lo hi : Option Int) : List α := (xs.drop (HT.sIx xs.length 0 lo)).take (HT.sIx xs.length xs.length hi - HT.sIx xs.length 0 lo)
theorem cutL_le {α : Type} (xs : List α) (lo hi : Option Int) : (cutL xs lo hi).length ≤ xs.length := by
  unfold cutL
  rw [List.length_take, List.length_drop]
  omega
theorem cutL_whole {α : Type} (xs : List α) (lo hi : Option Int) (h1 : HT.sIx xs.length 0 lo = 0) (h2 : HT.sIx xs.length xs.length hi = xs.length) : cutL xs lo hi = xs := by
  unfold cutL
  rw [h1, h2]
  simp
theorem Dats.cut {K : Frag} {w : Wr} {vs : List V} {ds : List D} (t : Dts K w vs ds) (lo hi : Option Int) : Dts K w (cutV vs lo hi) (cutL ds lo hi) := by
  unfold cutV cutL
  rw [t.length]
  exact (t.drop _).take _
def slD (S : List MO) (x : D) (lo hi : Option Int) : Option D := match x with
  | .str z => some (.str (cutS z lo hi))
  | .tup xs => some (.tup (cutL xs lo hi))
  | x => (listOf S x).bind fun xs => if xs.length ≤ sizeLine then some (.lst (cutL xs lo hi)) else none
def slR (K : Frag) : V → Option Int → Option Int → Hp → VK → Prop := fun x lo hi H Q => ∃ w dx d, w.H = H ∧ Wd K w ∧ Dt K w x dx ∧ slD w.S dx lo hi = some d ∧ ∀ w' v, w'.S = w.S → Ex w w' → Wd K w' → Dt K w' v d → Q v w'.H
theorem s_sl : SlR X (slR X.K) := by
  intro pins s σ H x v vl vu lo hi sl Q I rx hs pl pu ⟨w, dx, d, e, wd, hx, q, k⟩
  subst e
  unfold slD at q
  split at q
  · cases q
    exact sl_str pins s σ _ x v vl vu lo hi sl Q I rx hs pl pu ⟨_, hx.str_of.1, hx.str_of.2, k w _ rfl (Ex.refl _) wd (.str _ (Nat.le_trans (cutS_length _ _ _) hx.str_of.2))⟩
  · cases q
    obtain ⟨a, vs, rfl, hq, t⟩ := hx.tup_of
    refine sl_tupA pins s σ _ _ v vl vu lo hi sl Q I rx hs pl pu ⟨a, vs, rfl, SqT.same wd.fz hq, fun z => ?_, fun z p hp => ?_⟩
    · rw [t.length] at z
      rw [cutL_whole _ _ _ z.1 z.2] at k
      exact k w _ rfl (Ex.refl _) wd hx
    · obtain ⟨w2, hS, hH, x2, d2, t3⟩ := new_tup wd hp (Dats.cut (w := w) t lo hi) (Nat.le_trans (cutL_le _ _ _) hx.tup_le)
      have := k w2 _ hS x2 d2 t3
      rw [hH] at this
      exact this
  · rw [Option.bind_eq_some_iff] at q
    obtain ⟨xs, q, q2⟩ := q
    split at q2
    · rename_i hl
      cases q2
      obtain ⟨a, vs, rfl, hq, t⟩ := listOf_ok wd hx q
      refine sl_list pins s σ _ _ v vl vu lo hi sl Q I rx hs pl pu ⟨a, vs, rfl, hq, fun p hp => ?_⟩
      obtain ⟨w2, hS, hH, x2, d2, t3⟩ := new_lst wd hp (t.cut lo hi) (Nat.le_trans (cutL_le _ _ _) hl)
      have := k w2 _ hS x2 d2 t3
      rw [hH] at this
      exact this
    · cases q2
def sliceM (m : Rho → M D) (ml mh : Rho → M (Option Int)) : Rho → M D := fun ρ => m ρ >>= fun x => ml ρ >>= fun lo => mh ρ >>= fun hi => opd1 (fun S x => slD S x lo hi) x
theorem tP_bind {K : Frag} {W : WX} {m : Rho → M (Option Int)} {α : Type} {f : Rho → Option Int → M α} {σ : L2.St} {H : Hp} {w : Wr} {ρ : Rho} {k : α → Wr → Prop} (a : At K w σ ρ H) (h : Pst K (WE W σ) w ((m ρ >>= f ρ) w.S) k)
    {Q : Option Int → Hp → Prop} (q : ∀ b w', Ex w w' → At K w' σ ρ w'.H → Pst K (WE W σ) w' (f ρ b w'.S) k → Q b w'.H) : tP K W m σ H Q :=
  ⟨w, ρ, a, (Pst.bind h).mono fun d w' e x hp => q d w' e ⟨rfl, x, a.2.2.ex e⟩ hp⟩
theorem pd_slice {W : WX} {e : Expr} {lo hi : Option Expr} {m : Rho → M D} {ml mh : Rho → M (Option Int)} {pos p2 : Pos} (he : PDE X W e m) (hl : PDP X W lo ml) (hh : PDP X W hi mh) : PDE X W (.Subscript e (.Slice lo hi none p2) pos) (sliceM m ml mh) :=
  PE.imp (pe_slice s_sl he hl hh) fun σ H Q ⟨w, ρ, a, h⟩ =>
    tE_bind (f := fun ρ x => ml ρ >>= fun lo => mh ρ >>= fun hi => opd1 (fun S x => slD S x lo hi) x) a h fun d v w1 e1 a1 hv h1 =>
      tP_bind (f := fun ρ lo => mh ρ >>= fun hi => opd1 (fun S x => slD S x lo hi) d) a1 h1 fun lo w2 e2 a2 h2 =>
        tP_bind (f := fun ρ hi => opd1 (fun S x => slD S x lo hi) d) a2 h2 fun hi w3 e3 a3 h3 => by
          obtain ⟨d', e4, q⟩ := Pst.opd1 h3
          exact ⟨w3, d, d', rfl, a3.2.1, Dt.ex e3 (Dt.ex e2 hv), e4, fun w' v hS x d' hv => q w' hS x d' v hv⟩
/-! ### methods of built-in types -/
def mtM (K : Frag) (g : List MO → D → List D → Option D) : V → List V → Hp → VK → Prop := fun x xs H Q => ∃ w dx ds d, w.H = H ∧ Wd K w ∧ Dt K w x dx ∧ Dts K w xs ds ∧ g w.S dx ds = some d ∧
  ∀ w' v, w'.S = w.S → Ex w w' → Wd K w' → Dt K w' v d → Q v w'.H
def tyD (T : String) (S : List MO) (x : D) : Bool := match x with
  | .str _ => T == "str"
  | .dk _ _ => T == "dict"
  | .dt _ _ => T == "dict"
  | x => match listOf S x with
    | some _ => T == "list"
    | none => false
theorem tyD_ok {K : Frag} {w : Wr} (d : Wd K w) {v : V} {x : D} {T : String} (h : Dt K w v x) (e : tyD T w.S x = true) : tyV K T v w.H := by
  unfold tyD at e
  split at e
  · obtain ⟨rfl, _⟩ := h.str_of; exact beq_iff_eq.mp e
  · cases h with
    | dk q _ _ t => exact .inr (.inr (.inl ⟨beq_iff_eq.mp e, .inl ⟨_, d.fz _ _ q⟩⟩))
  · cases h with
    | dt q _ _ t => exact .inr (.inr (.inl ⟨beq_iff_eq.mp e, .inr ⟨_, d.fz _ _ q⟩⟩))
  · split at e
    · obtain ⟨a, vs, rfl, q, t⟩ := listOf_ok d h (by assumption)
      exact .inl ⟨beq_iff_eq.mp e, vs, q⟩
    · cases e
def oplm (g : List MO → D → List D → Option D) (x : D) (xs : List D) : M D := fun S => toRes (g S x xs) S
def needT (T : String) (x : D) : M Unit := fun S => if tyD T S x = true then .ok () S else .bad
def methM (T : String) (m : Rho → M D) (ms : Rho → M (List D)) (g : List MO → D → List D → Option D) : Rho → M D := fun ρ => m ρ >>= fun x => needT T x >>= fun _ => ms ρ >>= fun xs => oplm g x xs
theorem Pst.needT {K : Frag} {W : XK} {w : Wr} {T : String} {x : D} {k : Unit → Wr → Prop} (h : Pst K W w (needT T x w.S) k) : tyD T w.S x = true ∧ ∀ w', w'.S = w.S → Ex w w' → Wd K w' → k () w' := by
  unfold PD.needT at h
  by_cases c : tyD T w.S x = true
  · rw [if_pos c] at h; exact ⟨c, h⟩
  · rw [if_neg c] at h; exact h.elim
theorem pd_bm {W : WX} {o e : Expr} {es : List Expr} {m : Rho → M D} {ms : Rho → M (List D)} {name : Str} {apos cpos : Pos} {T id : String} {g : List MO → D → List D → Option D} (pa : PlainAttrs T) (slot : Slot T name id) (hty : typeOf (.builtin id) = pure (.type "method_descriptor"))
    (hm : MtR X id (mtM X.K g)) (ho : PDE X W o m) (ha : PDA X W (e :: es) ms) (hbase : attributeBase o name X.env (eval o X.env) = eval o X.env := by rfl)
    (hfew : ((backTo cpos (starEach (e :: es) X.env)).all (fun x => !x.1) && (backToKw cpos (keywordEach [] X.env)).all (fun x => x.1.isSome) && decide ((e :: es).length + ([] : List Keyword).length + (if ([] : List Keyword).isEmpty then 0 else 1) < 30)) = true := by rfl)
    (hline : (apos.endLine == cpos.line) = true := by rfl) (hs : starEach (e :: es) X.env = (false, eval e X.env) :: starEach es X.env := by rfl) (hpl : (backTo cpos (starEach es X.env)).any (·.1) = false := by rfl) :
    PDE X W (.Call (.Attribute o name apos) (e :: es) [] cpos) (methM T m ms g) := PE.imp (pe_bm pa slot hty hm ho ha hbase hfew hline hs hpl) fun σ H Q ⟨w, ρ, a, h⟩ =>
  tE_bind (f := fun ρ x => needT T x >>= fun _ => ms ρ >>= fun xs => oplm g x xs) a h fun d v w1 e1 a1 hv h1 => by
    obtain ⟨c, h2⟩ := Pst.needT (Pst.bind h1)
    have h3 := h2 w1 rfl (Ex.refl _) a1.2.1
    refine ⟨tyD_ok a1.2.1 hv c, tA_bind (f := fun ρ xs => oplm g d xs) a1 h3 fun ds vs w2 e2 a2 hvs h4 => ?_⟩
    unfold oplm at h4
    cases eg : g w2.S d ds with
    | none => rw [eg] at h4; exact h4.elim
    | some r =>
      rw [eg] at h4
      exact ⟨w2, d, ds, r, rfl, a2.2.1, Dt.ex e2 hv, hvs, eg, fun w' v hS x d' hv => h4 w' hS x d' v hv⟩
theorem pd_bm0 {W : WX} {o : Expr} {m : Rho → M D} {name : Str} {apos cpos : Pos} {T id : String} {g : List MO → D → List D → Option D} (pa : PlainAttrs T) (slot : Slot T name id) (hty : typeOf (.builtin id) = pure (.type "method_descriptor"))
    (hm : MtR X id (mtM X.K g)) (ho : PDE X W o m) (hbase : attributeBase o name X.env (eval o X.env) = eval o X.env := by rfl) (hline : (apos.endLine == cpos.line) = true := by rfl) :
    PDE X W (.Call (.Attribute o name apos) [] [] cpos) (methM T m (fun _ => pure []) g) := PE.imp (pe_bm0 pa slot hty hm ho hbase hline) fun σ H Q ⟨w, ρ, a, h⟩ =>
  tE_bind (f := fun ρ x => needT T x >>= fun _ => pure [] >>= fun xs => oplm g x xs) a h fun d v w1 e1 a1 hv h1 => by
    obtain ⟨c, h2⟩ := Pst.needT (Pst.bind h1)
    have h4 := h2 w1 rfl (Ex.refl _) a1.2.1
    rw [pure_bind'] at h4
    refine ⟨tyD_ok a1.2.1 hv c, ?_⟩
    unfold oplm at h4
    cases eg : g w1.S d [] with
    | none => rw [eg] at h4; exact h4.elim
    | some r =>
      rw [eg] at h4
      exact ⟨w1, d, [], r, rfl, a1.2.1, hv, .nil, eg, fun w' v hS x d' hv => h4 w' hS x d' v hv⟩
theorem MtR.imp {id : String} {r r' : V → List V → Hp → VK → Prop} (h : MtR X id r) (i : ∀ x xs H Q, r' x xs H Q → r x xs H Q) : MtR X id r' := fun pins s σ H x xs v us Q I rx rv q => h pins s σ H x xs v us Q I rx rv (i _ _ _ _ q)
/-! texts -/
def strsOf : List D → Option (List Str)
  | [] => some []
  | .str b :: ds => (strsOf ds).map (b :: ·)
  | _ :: _ => none
theorem strsOf_ok {K : Frag} {w : Wr} : ∀ {vs : List V} {ds : List D} {bs : List Str}, Dts K w vs ds → strsOf ds = some bs → vs = bs.map V.str
  | _, [], bs, t, e => by cases t; cases e; rfl
  | _, d :: ds, bs, t, e => by
    cases t with
    | cons h t =>
      cases d with
      | str b =>
        simp only [strsOf, Option.map_eq_some_iff] at e
        obtain ⟨bs', e, rfl⟩ := e
        rw [h.str_of.1, strsOf_ok t e]
        rfl
      | _ => simp [strsOf] at e
theorem strsOf_map {α : Type} (f : α → Str) (xs : List α) : strsOf (xs.map fun x => D.str (f x)) = some (xs.map f) := by
  induction xs with
  | nil => rfl
  | cons x xs ih => simp only [List.map_cons, strsOf, ih]; rfl
def joinD (S : List MO) (x : D) (xs : List D) : Option D := match x, xs with
  | .str a, [y] => (seqOf S y).bind fun ds => (strsOf ds).bind fun ys => if (ys.map (·.length)).sum + ys.length * a.length ≤ 16777216 ∧ (Txt.join a ys).length ≤ sizeLine then some (.str (Txt.join a ys)) else none
  | _, _ => none
theorem m_join : MtR X "str.join" (mtM X.K joinD) := MtR.imp mt_join fun x xs H Q ⟨w, dx, ds, d, e, wd, hx, hxs, q, k⟩ => by
  subst e
  unfold joinD at q
  split at q
  · rw [Option.bind_eq_some_iff] at q
    obtain ⟨es, q, q2⟩ := q
    rw [Option.bind_eq_some_iff] at q2
    obtain ⟨ys, q2, q3⟩ := q2
    split at q3
    · rename_i hl
      cases q3
      obtain ⟨v, rfl, hv⟩ := Dats.one hxs
      obtain ⟨p, vs, rfl, hq, t⟩ := seqOf_ok wd hv q
      have ev := strsOf_ok t q2
      subst ev
      exact ⟨_, p, ys, hx.str_of.1, rfl, hq.symm, hl.1, k w _ rfl (Ex.refl _) wd (.str _ hl.2)⟩
    · cases q3
  · cases q
def upperD (_ : List MO) (x : D) (xs : List D) : Option D := match x, xs with
  | .str a, [] => if a.length ≤ 5592405 ∧ (Txt.upper a).length ≤ sizeLine then some (.str (Txt.upper a)) else none
  | _, _ => none
theorem m_upper : MtR X "str.upper" (mtM X.K upperD) := MtR.imp mt_upper fun x xs H Q ⟨w, dx, ds, d, e, wd, hx, hxs, q, k⟩ => by
  subst e
  unfold upperD at q
  split at q
  · split at q
    · rename_i hl
      cases q
      cases hxs
      exact ⟨_, hx.str_of.1, rfl, hl.1, k w _ rfl (Ex.refl _) wd (.str _ hl.2)⟩
    · cases q
  · cases q
end
end PD

set_option Elab.async false
set_option linter.all false
set_option maxRecDepth 100000
namespace PD
open PySem PySem.Spec PyProof.Rows L2
/-! ### the store: a new thing, a thing changed -/
section
variable {K : Frag} {w : Wr}
theorem MOk.ex' {w' : Wr} {a : Addr} {o : MO} (x : Ex w w') (hH : w'.H a = w.H a) (h : MOk K w a o) : MOk K w' a o := by
  cases o with
  | ml ds => obtain ⟨vs, e, t⟩ := h; exact ⟨vs, hH.trans e, Dts.ex x t⟩
  | mk ks ds => obtain ⟨vs, e, l, t⟩ := h; exact ⟨vs, hH.trans e, l, Dts.ex x t⟩
  | mt ks ds => obtain ⟨vs, e, l, t⟩ := h; exact ⟨vs, hH.trans e, l, Dts.ex x t⟩
  | mi C ns ds => obtain ⟨dx, vs, e, l, t⟩ := h; exact ⟨dx, vs, hH.trans e, l, Dts.ex x t⟩
/-- the state with a new thing at p -/
def Wr.add (w : Wr) (p : Addr) (u : HO) (o : MO) : Wr := { ι := fun n => if n = w.S.length then p else w.ι n, B := w.B, S := w.S ++ [o], H := upd w.H p u }
theorem Wr.add_ex (d : Wd K w) {p : Addr} {u : HO} {o : MO} (hp : w.H p = none) : Ex w (w.add p u o) := by
  refine ⟨by show w.S.length ≤ (w.S ++ [o]).length; rw [List.length_append]; omega, fun n hn => by show (if n = w.S.length then p else w.ι n) = _; rw [if_neg (by omega)], fun a x h => h, fun a x h => .inl h, fun n h1 h2 => ?_, fun a x h _ => ?_⟩
  · have h2 : n < (w.S ++ [o]).length := h2
    rw [List.length_append, List.length_singleton] at h2
    show w.H (if n = w.S.length then p else w.ι n) = none
    rw [if_pos (by omega)]; exact hp
  · show upd w.H p u a = some x
    rw [upd_ne (fun z => by rw [z, hp] at h; cases h)]; exact h
theorem Wr.add_wd (d : Wd K w) {p : Addr} {u : HO} {o : MO} (hp : w.H p = none) (hB : w.B p = none := by first | assumption | skip) (ho : MOk K (w.add p u o) p o) : Wd K (w.add p u o) := by
  have np : ∀ n, n < w.S.length → w.ι n ≠ p := fun n hn z => by
    obtain ⟨x, e⟩ := d.there hn
    rw [z, hp] at e; cases e
  have il : ∀ n, n < w.S.length → (w.add p u o).ι n = w.ι n := fun n hn => by show (if n = w.S.length then p else w.ι n) = _; rw [if_neg (by omega)]
  have il2 : (w.add p u o).ι w.S.length = p := by show (if w.S.length = w.S.length then p else _) = p; rw [if_pos rfl]
  have ln : (w.add p u o).S.length = w.S.length + 1 := by show (w.S ++ [o]).length = _; rw [List.length_append, List.length_singleton]
  refine ⟨fun a x h => ?_, fun n hn => ?_, fun n x h => ?_, fun n m h1 h2 e => ?_⟩
  · show upd w.H p u a = some x
    have h : w.B a = some x := h
    rw [upd_ne (fun z => by rw [z, hB] at h; cases h)]; exact d.fz a x h
  · show w.B ((w.add p u o).ι n) = none
    by_cases hc : n < w.S.length
    · rw [il n hc]; exact d.sp n hc
    · have : n = w.S.length := by omega
      subst this; rw [il2]; exact hB
  · have h : (w.S ++ [o])[n]? = some x := h
    by_cases hc : n < w.S.length
    · rw [List.getElem?_append_left hc] at h
      rw [il n hc]
      exact MOk.ex' (Wr.add_ex d hp) (by show upd w.H p u (w.ι n) = _; exact upd_ne (np n hc)) (d.ob n x h)
    · have hn : n < (w.S ++ [o]).length := (List.getElem?_eq_some_iff.mp h).1
      rw [List.length_append, List.length_singleton] at hn
      have : n = w.S.length := by omega
      subst this
      rw [List.getElem?_append_right (Nat.le_refl _), Nat.sub_self] at h
      cases h
      rw [il2]; exact ho
  · rw [ln] at h1 h2
    by_cases c1 : n < w.S.length <;> by_cases c2 : m < w.S.length
    · rw [il n c1, il m c2] at e; exact d.inj n m c1 c2 e
    · have : m = w.S.length := by omega
      subst this
      rw [il n c1, il2] at e; exact absurd e (np n c1)
    · have : n = w.S.length := by omega
      subst this
      rw [il m c2, il2] at e; exact absurd e.symm (np m c2)
    · omega
theorem Wd.noB (d : Wd K w) {p : Addr} (hp : w.H p = none) : w.B p = none := by
  cases e : w.B p with
  | none => rfl
  | some u => rw [d.fz _ _ e] at hp; cases hp
theorem new_ml {p : Addr} {vs : List V} {ds : List D} (d : Wd K w) (hp : w.H p = none) (t : Dts K w vs ds) :
    ∃ w', w'.S = w.S ++ [.ml ds] ∧ w'.H = upd w.H p (.lst vs) ∧ Ex w w' ∧ Wd K w' ∧ Dt K w' (.ref p) (.ob w.S.length) := by
  have x := Wr.add_ex (u := .lst vs) (o := .ml ds) d hp
  refine ⟨w.add p (.lst vs) (.ml ds), rfl, rfl, x, Wr.add_wd d hp (d.noB hp) ⟨vs, by show upd w.H p _ p = _; exact upd_same, Dts.ex x t⟩, ?_⟩
  have h := Dat.ob (K := K) (ι := (w.add p (.lst vs) (.ml ds)).ι) (B := (w.add p (.lst vs) (.ml ds)).B) (N := (w.add p (.lst vs) (.ml ds)).S.length) w.S.length (by show w.S.length < (w.S ++ [MO.ml ds]).length; rw [List.length_append, List.length_singleton]; omega)
  have e : (w.add p (.lst vs) (.ml ds)).ι w.S.length = p := by show (if w.S.length = w.S.length then p else _) = p; rw [if_pos rfl]
  rw [e] at h
  exact h
/-- a thing of the store is written -/
theorem Wd.write {n : Nat} {o o' : MO} {u : HO} (d : Wd K w) (h : w.S[n]? = some o) (ho : MOk K { w with S := w.S.set n o', H := upd w.H (w.ι n) u } (w.ι n) o') :
    Wd K { w with S := w.S.set n o', H := upd w.H (w.ι n) u } ∧ Ex w { w with S := w.S.set n o', H := upd w.H (w.ι n) u } := by
  have hn : n < w.S.length := (List.getElem?_eq_some_iff.mp h).1
  have ex : Ex w { w with S := w.S.set n o', H := upd w.H (w.ι n) u } := by
    refine ⟨by show _ ≤ (w.S.set n o').length; rw [List.length_set]; exact Nat.le_refl _, fun _ _ => rfl, fun _ _ q => q, fun _ _ q => .inl q, fun m h1 h2 => ?_, fun a x q ne => ?_⟩
    · have h2 : m < (w.S.set n o').length := h2
      rw [List.length_set] at h2; omega
    · show upd w.H (w.ι n) u a = some x
      rw [upd_ne (ne n hn)]; exact q
  refine ⟨⟨fun a x q => ?_, fun m hm => ?_, fun m x q => ?_, fun m1 m2 h1 h2 e => ?_⟩, ex⟩
  · show upd w.H (w.ι n) u a = some x
    have q : w.B a = some x := q
    rw [upd_ne (fun z => by have := d.sp n hn; rw [← z, q] at this; cases this)]; exact d.fz a x q
  · have hm : m < (w.S.set n o').length := hm
    rw [List.length_set] at hm
    exact d.sp m hm
  · have q : (w.S.set n o')[m]? = some x := q
    by_cases z : n = m
    · subst z
      rw [List.getElem?_set_self hn] at q
      cases q
      exact ho
    · rw [List.getElem?_set_ne z] at q
      have hm : m < w.S.length := (List.getElem?_eq_some_iff.mp q).1
      exact MOk.ex' ex (by show upd w.H (w.ι n) u (w.ι m) = _; exact upd_ne (fun e => z (d.inj m n hm hn e).symm)) (d.ob m x q)
  · have h1 : m1 < (w.S.set n o').length := h1
    have h2 : m2 < (w.S.set n o').length := h2
    rw [List.length_set] at h1 h2
    exact d.inj m1 m2 h1 h2 e
theorem put_ml {n : Nat} {xs ds : List D} {vs : List V} (d : Wd K w) (h : w.S[n]? = some (.ml xs)) (t : Dts K w vs ds) :
    ∃ w', w'.S = w.S.set n (.ml ds) ∧ w'.H = upd w.H (w.ι n) (.lst vs) ∧ Ex w w' ∧ Wd K w' := by
  have hn : n < w.S.length := (List.getElem?_eq_some_iff.mp h).1
  obtain ⟨d2, x2⟩ := Wd.write (o' := .ml ds) (u := .lst vs) d h ⟨vs, by show upd w.H (w.ι n) _ (w.ι n) = _; exact upd_same, Dats.mono (by show _ ≤ (w.S.set n _).length; rw [List.length_set]; exact Nat.le_refl _) (fun _ _ => rfl) (fun _ _ q => q) t⟩
  exact ⟨_, rfl, rfl, x2, d2⟩
end
section
variable {X : Cx} {W : WX} {e : Expr} {es : List Expr} {m mo mi me : Rho → M D} {ms : Rho → M (List D)} {p pos : Pos}
def newL (xs : List D) : M D := if xs.length ≤ sizeLine then alloc (.ml xs) else bad
def objMs (ms : Rho → M (List D)) : Rho → M D := fun ρ => ms ρ >>= fun xs => newL xs
/-- a display that will be changed -/
theorem pd_obj (h : PDA X W es ms) : PDE X W (.List es pos) (objMs ms) := PE.imp (pe_lst h) fun σ H Q ⟨w, ρ, a, h⟩ =>
  tA_bind (f := fun _ xs => newL xs) a h fun ds vs w1 e1 a1 hvs h1 => by
    unfold newL at h1
    by_cases hl : ds.length ≤ sizeLine
    · rw [if_pos hl] at h1
      refine ⟨by rw [hvs.length]; exact hl, fun p hp => ?_⟩
      obtain ⟨w2, hS, hH, x2, d2, t2⟩ := new_ml a1.2.1 hp hvs
      have := h1 w2 hS x2 d2 _ t2
      rw [hH] at this
      exact this
    · rw [if_neg hl] at h1; exact h1.elim
/-! o[i] = e on a list of the store -/
def storeL (o i v : D) : M Unit := fun S => match o, i with
  | .ob n, .int k => match S[n]? with
    | some (.ml xs) => match ixN xs.length k with
      | some j => .ok () (S.set n (.ml (xs.set j v)))
      | none => .bad
    | _ => .bad
  | _, _ => .bad
def setIxS (mo mi me : Rho → M D) : Rho → M Fl := fun ρ => me ρ >>= fun v => mo ρ >>= fun o => mi ρ >>= fun i => storeL o i v >>= fun _ => pure (.nx ρ)
theorem Pst.storeL {K : Frag} {W : XK} {w : Wr} {o i v : D} {k : Unit → Wr → Prop} (h : Pst K W w (storeL o i v w.S) k) : ∃ n z xs j, o = .ob n ∧ i = .int z ∧ w.S[n]? = some (.ml xs) ∧ ixN xs.length z = some j ∧ ∀ w', w'.S = w.S.set n (.ml (xs.set j v)) → Ex w w' → Wd K w' → k () w' := by
  unfold PD.storeL at h
  split at h
  · split at h
    · split at h
      · exact ⟨_, _, _, _, rfl, rfl, by assumption, by assumption, h⟩
      · exact h.elim
    · exact h.elim
  · exact h.elim
theorem pds_setIx {o i : Expr} {pos2 : Pos} (he : PDE X W e me) (ho : PDE X W o mo) (hi : PDE X W i mi)
    (ha : ∀ v, assign (.Subscript o i pos) X.env v = (do
      let ov ← holding [v] (eval o X.env)
      let iv ← holding [v, ov] (eval i X.env)
      standAt pos
      holding [v, ov, iv] (setItem ov iv v)
      release [v, ov, iv] []) := by intro _; rfl) (hs : swapsWithSole [.Subscript o i pos] e pos2.line X.env = pure false := by rfl) (hw : swappedStores [.Subscript o i pos] e X.env = pure none := by rfl)
    (h1 : (assignEach [.Subscript o i pos] X.env).map (·.2) = [assign (.Subscript o i pos) X.env] := by rfl) : PDS X W (.Assign [.Subscript o i pos] e pos2) (setIxS mo mi me) :=
  PS.imp (ps_asg he (pg_sub ho hi set_list ha) hs hw h1) fun Dn σ H ⟨w, ρ, a, h⟩ =>
    tE_bind (f := fun ρ v => mo ρ >>= fun o => mi ρ >>= fun i => storeL o i v >>= fun _ => pure (Fl.nx ρ)) a h fun d v w1 e1 a1 hv h1 =>
      tE_bind (f := fun ρ o => mi ρ >>= fun i => storeL o i d >>= fun _ => pure (Fl.nx ρ)) a1 h1 fun o ov w2 e2 a2 ho h2 =>
        tE_bind (f := fun ρ i => storeL o i d >>= fun _ => pure (Fl.nx ρ)) a2 h2 fun i iv w3 e3 a3 hi h3 => by
          obtain ⟨n, z, xs, j, rfl, rfl, hS, hj, q⟩ := Pst.storeL (Pst.bind h3)
          obtain ⟨vs, eH, t⟩ := a3.2.1.ob n _ hS
          have ho3 := Dt.ex e3 ho
          cases ho3
          have hv3 := Dt.ex e3 (Dt.ex e2 hv)
          refine ⟨_, vs, z, j, rfl, hi.int_of, eH, by rw [t.length]; exact hj, ?_⟩
          obtain ⟨w4, hS4, hH4, x4, d4⟩ := put_ml a3.2.1 hS (t.set hv3 j)
          have := q w4 hS4 x4 d4 w4 rfl (Ex.refl _) d4 σ (a3.2.2.ex x4)
          rw [hH4] at this
          exact this
/-! ### more operators -/
def mulD (S : List MO) (x y : D) : Option D := match x, y with
  | .int i, .int j => if (-(2 ^ 64) < i ∧ i < 2 ^ 64) ∨ (-(2 ^ 64) < j ∧ j < 2 ^ 64) then some (.int (i * j)) else none
  | .str z, .int k => if 0 ≤ k ∧ k ≤ 1000 ∧ z.length ≤ 1000 then some (.str ⟨(List.replicate k.toNat z.cps.toList).flatten.toArray⟩) else none
  | x, .int k => (lstOf S x).bind fun xs => if 0 ≤ k ∧ k < 2 ^ 63 ∧ xs.length * k.toNat ≤ sizeLine then some (.lst (List.replicate k.toNat xs).flatten) else none
  | _, _ => none
theorem Dats.rep {K : Frag} {ι : Nat → Addr} {N : Nat} {B : Hp} {vs : List V} {ds : List D} (t : Dats K ι N B vs ds) : ∀ k : Nat, Dats K ι N B (List.replicate k vs).flatten (List.replicate k ds).flatten
  | 0 => .nil
  | k + 1 => by
    rw [List.replicate_succ, List.replicate_succ, List.flatten_cons, List.flatten_cons]
    exact t.append (Dats.rep t k)
theorem rep_len {α : Type} (xs : List α) (k : Nat) : (List.replicate k xs).flatten.length = xs.length * k := by
  rw [List.length_flatten, List.map_replicate, List.sum_replicate_nat, Nat.mul_comm]
theorem foldl_arr (xs : Array Nat) (k : Nat) : (List.replicate k xs).foldl (· ++ ·) #[] = (List.replicate k xs.toList).flatten.toArray := by
  have : ∀ (k : Nat) (acc : Array Nat), (List.replicate k xs).foldl (· ++ ·) acc = acc ++ (List.replicate k xs.toList).flatten.toArray := by
    intro k
    induction k with
    | zero => intro acc; simp
    | succ k ih =>
      intro acc
      rw [List.replicate_succ, List.foldl_cons, ih, List.replicate_succ, List.flatten_cons, Array.append_assoc]
      congr 1
      simp
  rw [this k #[]]
  simp
theorem op_mul_str : OpR X (binaryOp .Mult) (fun x y H Q => ∃ z k, x = .str z ∧ y = .int k ∧ 0 ≤ k ∧ k ≤ 1000 ∧ z.length ≤ 1000 ∧ Q (.str ⟨(List.replicate k.toNat z.cps.toList).flatten.toArray⟩) H) := by
  intro pins s σ H x y v u Q I rx ry ⟨z, k, e1, e2, h0, h1, h2, q⟩
  subst e1; subst e2
  obtain ⟨t, rfl⟩ := rx
  obtain ⟨t', rfl⟩ := ry
  have hz : z.length * k.toNat ≤ 1000000 := by
    have : k.toNat ≤ 1000 := by omega
    calc z.length * k.toNat ≤ 1000 * 1000 := Nat.mul_le_mul h2 this
      _ = 1000000 := rfl
  refine PySem.P.mul_str (by rw [decide_eq_false (by omega), decide_eq_false (by omega)]; rfl) (fun h3 _ => ?_) (fun h3 _ => ?_) ?_
  · have hk : 0 < k := by omega
    have h5 : (z.length : Int) * k ≤ 2 ^ 63 - 1 := by
      have h6 : ((z.length * k.toNat : Nat) : Int) ≤ 1000000 := Int.ofNat_le.mpr hz
      rw [Int.natCast_mul, Int.toNat_of_nonneg h0] at h6
      have : (1000000 : Int) ≤ 2 ^ 63 - 1 := by decide
      omega
    have := (Int.le_ediv_iff_mul_le hk).mpr h5
    omega
  · show decide (_ > sizeLine) = false
    exact decide_eq_false (fun c => by
      have : (1000000 : Nat) < sizeLine := by decide
      omega)
  · by_cases hk : k < 1
    · rw [if_pos hk]
      have e0 : k.toNat = 0 := by omega
      rw [e0] at q
      exact ⟨by decide, ⟨.str Str.empty, H, I.tok _, ⟨_, rfl⟩, q⟩⟩
    · rw [if_neg hk]
      by_cases hc : (k == 1 || z.length == 0) = true
      · rw [if_pos hc]
        have e1 : (⟨(List.replicate k.toNat z.cps.toList).flatten.toArray⟩ : Str) = z := by
          rw [Bool.or_eq_true] at hc
          rcases hc with hc | hc
          · have : k = 1 := by simpa using hc
            subst this
            obtain ⟨c⟩ := z
            simp
          · have hz0 : z.cps.size = 0 := beq_iff_eq.mp hc
            obtain ⟨c⟩ := z
            have : c = #[] := Array.size_eq_zero_iff.mp hz0
            subst this
            simp
        rw [e1] at q
        exact ⟨.str z, H, I, ⟨_, rfl⟩, q⟩
      · rw [if_neg hc]
        rw [← foldl_arr] at q
        refine ⟨?_, ⟨.str _, H, I.tok _, ⟨_, rfl⟩, q⟩⟩
        show ((List.replicate k.toNat z.cps).foldl (· ++ ·) #[]).size ≤ sizeLine
        rw [foldl_arr, List.size_toArray, rep_len, Array.length_toList]
        exact Nat.le_trans hz (by decide)
theorem o_mul : OpR X (binaryOp .Mult) (opM X.K mulD) := by
  rintro pins s σ H x y v u Q I rx ry ⟨w, dx, dy, d, rfl, wd, hx, hy, q, k⟩
  unfold mulD at q
  split at q
  · split at q
    · rename_i hc
      cases q
      exact op_mul pins s σ _ x y v u Q I rx ry ⟨_, _, hx.int_of, hy.int_of, hc, k w _ rfl (Ex.refl _) wd (.int _)⟩
    · cases q
  · split at q
    · rename_i z i hc
      cases q
      refine op_mul_str pins s σ _ x y v u Q I rx ry ⟨_, _, hx.str_of.1, hy.int_of, hc.1, hc.2.1, hc.2.2, k w _ rfl (Ex.refl _) wd (.str _ ?_)⟩
      show ((List.replicate i.toNat z.cps.toList).flatten.toArray).size ≤ sizeLine
      rw [List.size_toArray, rep_len, Array.length_toList]
      have h1 : z.cps.size ≤ 1000 := hc.2.2
      have h2 : i.toNat ≤ 1000 := by omega
      exact Nat.le_trans (Nat.mul_le_mul h1 h2) (by decide)
    · cases q
  · rw [Option.bind_eq_some_iff] at q
    obtain ⟨xs, e, q⟩ := q
    split at q
    · rename_i hc
      cases q
      obtain ⟨a, vs, rfl, hH, t⟩ := lstOf_ok wd hx e
      refine op_rep pins s σ _ _ y v u Q I rx ry ⟨a, _, vs, rfl, hy.int_of, hH, by omega, hc.2.1, by rw [t.length]; exact hc.2.2, fun p hp => ?_⟩
      obtain ⟨w2, hS, hH2, x2, d2, t3⟩ := new_lst wd hp (Dats.rep t _) (by rw [rep_len]; exact hc.2.2)
      have := k w2 _ hS x2 d2 t3
      rw [hH2] at this
      exact this
    · cases q
  · cases q
def powDW : List MO → D → D → Option D := onI (fun i j => decide (0 ≤ j ∧ (Builtin.Int.intBits i : Int) * j ≤ 2 ^ 27)) fun i j => .int (i ^ j.toNat)
theorem o_powW : OpR X (binaryOp .Pow) (opM X.K powDW) :=
  opI_ok (C := fun i j => 0 ≤ j ∧ (Builtin.Int.intBits i : Int) * j ≤ 2 ^ 27) (g := fun i j => .int (i ^ j.toNat)) (opI fun _ _ _ _ _ _ _ hc q => pow_int hc.1 hc.2 q) (fun i j h => of_decide_eq_true h) fun w i j => .int _
/-! repr of what is no display -/
def reprD (_ : List MO) : List D → Option D
  | [.bl b] => some (.str (if b then "True" else "False"))
  | [.non] => some (.str "None")
  | [.int i] => if i.natAbs.log2 < 1920 then some (.str (toString i)) else none
  | _ => none
def rReprB : List V → Hp → VK → Prop := fun xs H Q => ∃ b, xs = [.bl b] ∧ Q (.str (if b then "True" else "False")) H
theorem call_repr_b : CallR X (.builtin "repr") rReprB := by
  rintro pins s σ H xs us Q I rv ⟨b, rfl, q⟩
  obtain ⟨u, rfl, r⟩ := vals1 rv
  cases r
  exact PySem.P.repr_of_bool ⟨.str _, H, I.tok _, ⟨_, rfl⟩, q⟩
def reprBD (_ : List MO) : List D → Option D
  | [.bl b] => some (.str (if b then "True" else "False"))
  | _ => none
theorem c_reprB : CallR X (.builtin "repr") (callM X.K reprBD) := callM_ok fun w xs ds d Q wd t e k => by
  unfold reprBD at e
  split at e
  · cases e
    obtain ⟨v, rfl, hv⟩ := Dats.one t
    refine ⟨_, call_repr_b, _, by rw [hv.bl_of], k w _ rfl (Ex.refl _) wd (.str _ ?_)⟩
    rename_i b
    cases b <;> decide
  · cases e
end
end PD

set_option Elab.async false
set_option linter.all false
set_option maxRecDepth 100000
namespace PD
open PySem PySem.Spec PyProof.Rows L2
/-! ### dicts: keys and values side by side -/
def putD {κ α : Type} [DecidableEq κ] (ks : List κ) (ds : List α) (k : κ) (d : α) : List κ × List α :=
  if ks.any (fun x => decide (x = k)) = true then (ks, (ks.zip ds).map fun p => if p.1 = k then d else p.2) else (ks ++ [k], ds ++ [d])
theorem zip_map_snd {κ α : Type} : ∀ (ks : List κ) (ds : List α) (f : κ × α → α), ks.length = ds.length → ks.zip ((ks.zip ds).map f) = (ks.zip ds).map fun p => (p.1, f p)
  | [], _, _, _ => rfl
  | _ :: _, [], _, h => by simp at h
  | k :: ks, d :: ds, f, h => by
    simp only [List.zip_cons_cons, List.map_cons]
    rw [zip_map_snd ks ds f (by simpa using h)]
theorem any_zip {κ α : Type} (f : κ → Bool) : ∀ (ks : List κ) (ds : List α), ks.length = ds.length → ((ks.zip ds).any fun p => f p.1) = ks.any f
  | [], _, _ => rfl
  | _ :: _, [], h => by simp at h
  | k :: ks, d :: ds, h => by
    simp only [List.zip_cons_cons, List.any_cons]
    rw [any_zip f ks ds (by simpa using h)]
theorem putK_zip {κ : Type} [DecidableEq κ] (ks : List κ) (vs : List V) (k : κ) (v : V) (h : ks.length = vs.length) : putK (ks.zip vs) k v = (putD ks vs k v).1.zip (putD ks vs k v).2 := by
  unfold putK putD
  rw [any_zip (fun x => decide (x = k)) ks vs h]
  split
  · show _ = ks.zip _
    rw [zip_map_snd ks vs _ h]
    refine List.map_congr_left fun p hp => ?_
    split <;> rfl
  · show _ = (ks ++ [k]).zip (vs ++ [v])
    rw [List.zip_append h]
    rfl
theorem putD_len {κ α : Type} [DecidableEq κ] (ks : List κ) (ds : List α) (k : κ) (d : α) (h : ks.length = ds.length) : (putD ks ds k d).1.length = (putD ks ds k d).2.length := by
  unfold putD
  split
  · show ks.length = ((ks.zip ds).map _).length
    rw [List.length_map, List.length_zip]; omega
  · show (ks ++ [k]).length = (ds ++ [d]).length
    rw [List.length_append, List.length_append, h]; rfl
theorem putD_keys {κ α β : Type} [DecidableEq κ] (ks : List κ) (ds : List α) (es : List β) (k : κ) (d : α) (e : β) : (putD ks ds k d).1 = (putD ks es k e).1 := by
  unfold putD; split <;> rfl
theorem putD_more {κ α : Type} [DecidableEq κ] (ks : List κ) (ds : List α) (k : κ) (d : α) (h : ks.length = ds.length) : (putD ks ds k d).2.length ≤ ds.length + 1 := by
  unfold putD
  split
  · show ((ks.zip ds).map _).length ≤ _
    rw [List.length_map, List.length_zip]; omega
  · show (ds ++ [d]).length ≤ _
    rw [List.length_append]; exact Nat.le_refl _
section
variable {K : Frag} {ι : Nat → Addr} {N : Nat} {B : Hp}
theorem Dats.mapz {κ : Type} [DecidableEq κ] {k : κ} {v : V} {d : D} (hv : Dat K ι N B v d) : ∀ {ks : List κ} {vs : List V} {ds : List D}, Dats K ι N B vs ds → ks.length = vs.length → Dats K ι N B ((ks.zip vs).map fun p => if p.1 = k then v else p.2) ((ks.zip ds).map fun p => if p.1 = k then d else p.2)
  | [], _, _, _, _ => by simp; exact .nil
  | k0 :: ks, _, _, .cons h t, hl => by
    simp only [List.zip_cons_cons, List.map_cons]
    refine .cons ?_ (Dats.mapz hv t (by simpa using hl))
    split
    · exact hv
    · exact h
theorem Dats.put {κ : Type} [DecidableEq κ] {ks : List κ} {k : κ} {v : V} {d : D} (hv : Dat K ι N B v d) {vs : List V} {ds : List D} (t : Dats K ι N B vs ds) (hl : ks.length = vs.length) : Dats K ι N B (putD ks vs k v).2 (putD ks ds k d).2 := by
  unfold putD
  split
  · exact t.mapz hv hl
  · exact t.append (.cons hv .nil)
/-- the value at a key -/
def valD {κ α : Type} [DecidableEq κ] : List κ → List α → κ → Option α
  | k :: ks, d :: ds, x => if k = x then some d else valD ks ds x
  | _, _, _ => none
theorem Dats.val {κ : Type} [DecidableEq κ] {x : κ} : ∀ {ks : List κ} {vs : List V} {ds : List D}, Dats K ι N B vs ds → ks.length = vs.length →
    (∃ v d, valV (ks.zip vs) x = some v ∧ valD ks ds x = some d ∧ Dat K ι N B v d) ∨ (valV (ks.zip vs) x = none ∧ valD ks ds x = none)
  | [], _, _, .nil, _ => .inr ⟨rfl, rfl⟩
  | k :: ks, _, _, .cons h t, hl => by
    by_cases e : k = x
    · exact .inl ⟨_, _, valV_pos (p := (k, _)) e, by simp [valD, e], h⟩
    · rcases Dats.val t (x := x) (ks := ks) (by simpa using hl) with ⟨v, d, e1, e2, r⟩ | ⟨e1, e2⟩
      · exact .inl ⟨v, d, (valV_neg (p := (k, _)) e).trans e1, by simp [valD, e, e2], r⟩
      · exact .inr ⟨(valV_neg (p := (k, _)) e).trans e1, by simp [valD, e, e2]⟩
end
def keyOf : D → Option Key
  | .int i => some (.inl i)
  | .str x => some (.inr x)
  | _ => none
theorem keyOf_ok {K : Frag} {ι : Nat → Addr} {N : Nat} {B : Hp} {v : V} {d : D} {k : Key} (h : Dat K ι N B v d) (e : keyOf d = some k) : v = kV k := by
  cases d with
  | int i => cases e; exact h.int_of
  | str x => cases e; exact h.str_of.1
  | _ => cases e
/-! displays -/
def pairsM : List ((Rho → M D) × (Rho → M D)) → Rho → M (List (D × D))
  | [], _ => pure []
  | (mk, mv) :: r, ρ => mk ρ >>= fun k => mv ρ >>= fun v => pairsM r ρ >>= fun ps => pure ((k, v) :: ps)
def mergeD : List (D × D) → List Key → List D → Option (List Key × List D)
  | [], ks, ds => some (ks, ds)
  | (k, v) :: r, ks, ds => (keyOf k).bind fun k => mergeD r (putD ks ds k v).1 (putD ks ds k v).2
def mkDict (ps : List (D × D)) : M D := if ps.length ≤ 15 then lift ((mergeD ps [] []).map fun z => .dk z.1 z.2) else bad
def dispM (ps : List ((Rho → M D) × (Rho → M D))) : Rho → M D := fun ρ => pairsM ps ρ >>= mkDict
inductive PDPs (X : Cx) (W : WX) (pos : Pos) : List (Option Expr) → List Expr → List ((Rho → M D) × (Rho → M D)) → Prop
  | nil : PDPs X W pos [] [] []
  | cons {k v : Expr} {ks : List (Option Expr)} {vs : List Expr} {mk mv : Rho → M D} {r : List ((Rho → M D) × (Rho → M D))} : PDE X W k mk → PDE X W v mv → PDPs X W pos ks vs r → PDPs X W pos (some k :: ks) (v :: vs) ((mk, mv) :: r)
theorem PDPs.pps {X : Cx} {W : WX} {pos : Pos} {ks : List (Option Expr)} {vs : List Expr} {r : List ((Rho → M D) × (Rho → M D))} (h : PDPs X W pos ks vs r) : PPs X pos ks vs (r.map fun p => (tE X.K W p.1, tE X.K W p.2)) := by
  induction h with
  | nil => exact pps_nil
  | cons hk hv _ ih => exact pps_cons hk hv ih
def PrOk (K : Frag) (w : Wr) : List (V × V) → List (D × D) → Prop
  | [], [] => True
  | (x, y) :: ps, (d, e) :: qs => Dt K w x d ∧ Dt K w y e ∧ PrOk K w ps qs
  | _, _ => False
theorem tPairs_bind {K : Frag} {W : WX} {α : Type} {σ : L2.St} {ρ : Rho} {k : α → Wr → Prop} : ∀ (r : List ((Rho → M D) × (Rho → M D))) {f : List (D × D) → M α} {w : Wr} {H : Hp}, At K w σ ρ H → Pst K (WE W σ) w ((pairsM r ρ >>= f) w.S) k →
    ∀ {Q : List (V × V) → Hp → Prop}, (∀ ps qs w', Ex w w' → At K w' σ ρ w'.H → PrOk K w' ps qs → Pst K (WE W σ) w' (f qs w'.S) k → Q ps w'.H) → tPairs (r.map fun p => (tE K W p.1, tE K W p.2)) σ H Q
  | [], f, w, H, a, h, Q, q => by
    have := q [] [] w (Ex.refl _) ⟨rfl, a.2.1, a.2.2⟩ trivial h
    rw [a.1] at this
    exact this
  | (mk, mv) :: r, f, w, H, a, h, Q, q => by
    have h' : Pst K (WE W σ) w ((mk ρ >>= fun x => mv ρ >>= fun y => pairsM r ρ >>= fun ps => f ((x, y) :: ps)) w.S) k := by
      have e : (pairsM ((mk, mv) :: r) ρ >>= f) = (mk ρ >>= fun x => mv ρ >>= fun y => pairsM r ρ >>= fun ps => f ((x, y) :: ps)) := by
        simp only [pairsM, bind_assoc', pure_bind']
      rw [← e]; exact h
    refine tE_bind (f := fun ρ x => mv ρ >>= fun y => pairsM r ρ >>= fun ps => f ((x, y) :: ps)) a h' fun dx x w1 e1 a1 hx h1 => ?_
    refine tE_bind (f := fun ρ y => pairsM r ρ >>= fun ps => f ((dx, y) :: ps)) a1 h1 fun dy y w2 e2 a2 hy h2 => ?_
    exact tPairs_bind r (f := fun ps => f ((dx, dy) :: ps)) a2 h2 fun ps qs w3 e3 a3 hp h3 => q _ ((dx, dy) :: qs) w3 (e1.trans a1.2.1 (e2.trans a2.2.1 e3)) a3 ⟨Dt.ex e3 (Dt.ex e2 hx), Dt.ex e3 hy, hp⟩ h3
theorem mergeD_ok {K : Frag} {w : Wr} : ∀ {ps : List (V × V)} {qs : List (D × D)} {ks : List Key} {vs : List V} {ds : List D} {z : List Key × List D}, PrOk K w ps qs → ks.length = vs.length → Dts K w vs ds → mergeD qs ks ds = some z →
    ∃ (kvs : List (Key × V)) (vs' : List V), ps = kvs.map (fun kv => (kV kv.1, kv.2)) ∧ kvs.length = qs.length ∧ mergeK (ks.zip vs) kvs = z.1.zip vs' ∧ z.1.length = vs'.length ∧ Dts K w vs' z.2 ∧ z.2.length ≤ ds.length + qs.length
  | [], [], ks, vs, ds, z, _, hl, t, e => by cases e; exact ⟨[], vs, rfl, rfl, rfl, hl, t, by simp⟩
  | (x, y) :: ps, (d, e) :: qs, ks, vs, ds, z, ⟨h1, h2, h3⟩, hl, t, em => by
    simp only [mergeD, Option.bind_eq_some_iff] at em
    obtain ⟨k, ek, em⟩ := em
    have hl2 := putD_len ks vs k y hl
    rw [putD_keys ks ds vs k e y] at em
    obtain ⟨kvs, vs', e1, e2, e3, e4, e5, e6⟩ := mergeD_ok h3 hl2 (t.put h2 hl) em
    have hm := putD_more ks ds k e (hl.trans t.length)
    refine ⟨(k, y) :: kvs, vs', by rw [List.map_cons, ← e1, keyOf_ok h1 ek], by rw [List.length_cons, List.length_cons, e2], ?_, e4, e5, by rw [List.length_cons]; omega⟩
    rw [← e3, ← putK_zip ks vs k y hl]
    rfl
theorem pd_disp {X : Cx} {W : WX} {pos : Pos} {keys : List (Option Expr)} {values : List Expr} {r : List ((Rho → M D) × (Rho → M D))} (h : PDPs X W pos keys values r) (hall : keys.all (·.isSome) = true := by rfl) (hl : keys.length = values.length := by rfl)
    (h0 : keys ≠ [] := by exact fun z => nomatch z) (h15 : keys.length ≤ 15 := by decide) : PDE X W (.Dict keys values pos) (dispM r) := PE.imp (pe_disp h.pps hall hl h0 h15) fun σ H Q ⟨w0, ρ, a, h⟩ => by
  intro p hp
  obtain ⟨rfl, d0, l0⟩ := a
  have al := Alone.first d0 hp
  have hpk := d0.poke (o := .dK []) al.b al.i
  have xpk := (Ex.refl w0).poke (o := .dK []) hp
  -- from the poked state
  have h1 := Pst.split (w := { w0 with H := upd w0.H p (.dK []) }) (m := pairsM r ρ) (f := mkDict) h xpk hpk
  have h2 : Pst X.K (WE W σ) { w0 with H := upd w0.H p (.dK []) } ((pairsM r ρ >>= fun qs => pure qs) w0.S) (fun qs w' => Ex w0 w' ∧ Pst X.K (WE W σ) w0 (mkDict qs w'.S) (kE X.K Q)) := by
    rw [bind_pure']; exact h1
  refine tPairs_bind r (f := fun qs => pure qs) ⟨rfl, hpk, l0.ex xpk⟩ h2 fun ps qs w2 x2 a2 hp2 h3 => ?_
  obtain ⟨x02, h4⟩ := h3 w2 rfl (Ex.refl _) a2.2.1
  have hH2 : w2.H p = some (.dK []) := x2.kp p _ (by show upd w0.H p _ p = _; exact upd_same) fun n hn z => al.i n hn z.symm
  refine ⟨hH2, ?_⟩
  unfold mkDict at h4
  by_cases hc : qs.length ≤ 15
  · rw [if_pos hc] at h4
    cases em : mergeD qs [] [] with
    | none => rw [em] at h4; exact h4.elim
    | some kd =>
    rw [em] at h4
    have h5 : ∀ w', w'.S = w2.S → Ex w0 w' → Wd X.K w' → kE X.K Q (.dk kd.1 kd.2) w' := h4
    obtain ⟨kvs, vs', e1, e2, e3, e4, e5, e6⟩ := mergeD_ok (ks := []) (vs := []) (ds := []) hp2 rfl .nil em
    refine ⟨kvs, e1, by omega, ?_⟩
    have al2 : Alone w0 w2 p := Alone.next (o := .dK []) (w := { w0 with H := upd w0.H p (.dK []) }) ⟨hp, al.b, al.i⟩ x2 (by show upd w0.H p _ p = _; exact upd_same)
    have up : ∀ a o, w2.B a = some o → upd w2.B p (.dK (mergeK [] kvs)) a = some o := fun a o q => by
      rw [upd_ne (fun z => by rw [z, al2.b] at q; cases q)]; exact q
    have mv : ∀ {us : List V} {es : List D}, Dts X.K w2 us es → Dts X.K { w2 with B := upd w2.B p (.dK (mergeK [] kvs)), H := upd w2.H p (.dK (mergeK [] kvs)) } us es := fun t => Dats.mono (Nat.le_refl _) (fun _ _ => rfl) up t
    refine h5 { w2 with B := upd w2.B p (.dK (mergeK [] kvs)), H := upd w2.H p (.dK (mergeK [] kvs)) } rfl ⟨x02.le, x02.io, fun a o q => up a o (x02.fz a o q), fun a o q => ?_, x02.ni, fun a o q hn => ?_⟩ ⟨fun a o q => ?_, fun n hn' => ?_, fun n o q => ?_, a2.2.1.inj⟩ _ ?_
    · have q : upd w2.B p (.dK (mergeK [] kvs)) a = some o := q
      by_cases z : a = p
      · subst z; exact .inr hp
      · rw [upd_ne z] at q; exact x02.nw a o q
    · show upd w2.H p _ a = some o
      rw [upd_ne (fun z => by rw [z, hp] at q; cases q)]
      exact x02.kp a o q hn
    · have q : upd w2.B p (.dK (mergeK [] kvs)) a = some o := q
      show upd w2.H p (.dK (mergeK [] kvs)) a = some o
      by_cases z : a = p
      · subst z; rw [upd_same] at q ⊢; exact q
      · rw [upd_ne z] at q ⊢; exact a2.2.1.fz a o q
    · show upd w2.B p _ (w2.ι n) = none
      rw [upd_ne (al2.i n hn')]
      exact a2.2.1.sp n hn'
    · have q2 := a2.2.1.ob n o q
      have hn : n < w2.S.length := (List.getElem?_eq_some_iff.mp q).1
      have eH : upd w2.H p (.dK (mergeK [] kvs)) (w2.ι n) = w2.H (w2.ι n) := upd_ne (al2.i n hn)
      cases o with
      | ml _ => obtain ⟨us, e, t⟩ := q2; exact ⟨us, eH.trans e, mv t⟩
      | mk _ _ => obtain ⟨us, e, l, t⟩ := q2; exact ⟨us, eH.trans e, l, mv t⟩
      | mt _ _ => obtain ⟨us, e, l, t⟩ := q2; exact ⟨us, eH.trans e, l, mv t⟩
      | mi _ _ _ => obtain ⟨dx, us, e, l, t⟩ := q2; exact ⟨dx, us, eH.trans e, l, mv t⟩
    · refine .dk (vs := vs') ?_ e4 ?_ (mv e5)
      · show upd w2.B p (.dK (mergeK [] kvs)) p = _
        rw [upd_same]
        have e3' : mergeK [] kvs = kd.1.zip vs' := e3
        rw [e3']
      · have : kd.2.length ≤ 15 := by simp only [List.length_nil] at e6; omega
        exact Nat.le_trans this (by decide)
  · rw [if_neg hc] at h4; exact h4.elim
/-- {} that stays empty -/
theorem pd_nodict {X : Cx} {W : WX} {pos : Pos} : PDE X W (.Dict [] [] pos) (fun _ => pure (.dk [] [])) := PE.imp pe_dnewK fun σ H Q ⟨w, ρ, a, h⟩ => by
  intro p hp
  obtain ⟨rfl, d, l⟩ := a
  obtain ⟨d2, x2⟩ := d.settle (o := .dK []) hp
  exact h { w with B := upd w.B p (.dK []), H := upd w.H p (.dK []) } rfl x2 d2 _ (.dk (vs := []) (by show upd w.B p _ p = _; exact upd_same) rfl (Nat.zero_le _) .nil)
end PD

set_option Elab.async false
set_option linter.all false
set_option maxRecDepth 100000
namespace PD
open PySem PySem.Spec PyProof.Rows L2
theorem thenF_nx (n : Rho → M Fl) (ρ : Rho) : thenF n (.nx ρ) = n ρ := (rfl)
theorem thenF_rt (n : Rho → M Fl) (d : D) : thenF n (.rt d) = pure (.rt d) := (rfl)
theorem thenF_bk (n : Rho → M Fl) (ρ : Rho) : thenF n (.bk ρ) = pure (.bk ρ) := (rfl)
theorem thenF_ct (n : Rho → M Fl) (ρ : Rho) : thenF n (.ct ρ) = pure (.ct ρ) := (rfl)
theorem isB_bl (b : Bool) : isB (.bl b) = pure b := (rfl)
theorem retF_rt (d : D) : retF (.rt d) = pure d := (rfl)
theorem retF_nx (ρ : Rho) : retF (.nx ρ) = pure .non := (rfl)
theorem itemsOf_tup (xs : List D) : itemsOf (.tup xs) = pure xs := (rfl)
theorem itemsOf_lst (xs : List D) : itemsOf (.lst xs) = pure xs := (rfl)
theorem itemsOf_fl (xs : List D) : itemsOf (.fl xs) = pure xs := (rfl)
theorem itemsOf_str (z : Str) : itemsOf (.str z) = pure (strD z) := (rfl)
theorem tyName_non (S : List MO) : tyName S (.non) = some "NoneType" := (rfl)
theorem tyName_bl (S : List MO) (b : Bool) : tyName S (.bl b) = some "bool" := (rfl)
theorem tyName_int (S : List MO) (i : Int) : tyName S (.int i) = some "int" := (rfl)
theorem tyName_str (S : List MO) (z : Str) : tyName S (.str z) = some "str" := (rfl)
theorem tyName_tup (S : List MO) (xs : List D) : tyName S (.tup xs) = some "tuple" := (rfl)
theorem tyName_lst (S : List MO) (xs : List D) : tyName S (.lst xs) = some "list" := (rfl)
theorem tyName_fl (S : List MO) (xs : List D) : tyName S (.fl xs) = some "list" := (rfl)
theorem tyName_dk (S : List MO) (ks : List Key) (vs : List D) : tyName S (.dk ks vs) = some "dict" := (rfl)
theorem tyName_dt (S : List MO) (ks : List (List Key)) (vs : List D) : tyName S (.dt ks vs) = some "dict" := (rfl)
theorem seqOf_tup (S : List MO) (xs : List D) : seqOf S (.tup xs) = some xs := (rfl)
theorem lenOf_tup (S : List MO) (xs : List D) : lenOf S (.tup xs) = some xs.length := (rfl)
theorem seqOf_lst (S : List MO) (xs : List D) : seqOf S (.lst xs) = some xs := (rfl)
theorem lenOf_lst (S : List MO) (xs : List D) : lenOf S (.lst xs) = some xs.length := (rfl)
theorem seqOf_fl (S : List MO) (xs : List D) : seqOf S (.fl xs) = some xs := (rfl)
theorem lenOf_fl (S : List MO) (xs : List D) : lenOf S (.fl xs) = some xs.length := (rfl)
theorem listOf_lst (S : List MO) (xs : List D) : listOf S (.lst xs) = some xs := (rfl)
theorem listOf_fl (S : List MO) (xs : List D) : listOf S (.fl xs) = some xs := (rfl)
theorem lstOf_lst (S : List MO) (xs : List D) : lstOf S (.lst xs) = some xs := (rfl)
theorem lenOf_str (S : List MO) (z : Str) : lenOf S (.str z) = some z.length := (rfl)
theorem lenD_1 (S : List MO) (x : D) : lenD S [x] = (lenOf S x).map fun (n : Nat) => D.int (n : Nat) := (rfl)
theorem allD_1 (S : List MO) (x : D) : allD S [x] = (listOf S x).bind fun xs => (boolsOf xs).map fun bs => .bl (bs.all id) := (rfl)
theorem anyD_1 (S : List MO) (x : D) : anyD S [x] = (listOf S x).bind fun xs => (boolsOf xs).map fun bs => .bl (bs.any id) := (rfl)
theorem isi_eq (S : List MO) (x : D) (T : String) : isiD S [x, .ty T] = (tyName S x).bind fun a => (kitB a T).map .bl := (rfl)
theorem ltD_ii (S : List MO) (i j : Int) : ltD S (.int i) (.int j) = some (.bl (decide (i < j))) := (rfl)
theorem ltD_ss (S : List MO) (a b : Str) : ltD S (.str a) (.str b) = some (.bl (decide (a.cps.toList < b.cps.toList))) := (rfl)
theorem leD_ii (S : List MO) (i j : Int) : leD S (.int i) (.int j) = some (.bl (decide (i ≤ j))) := (rfl)
theorem leD_ss (S : List MO) (a b : Str) : leD S (.str a) (.str b) = some (.bl (!decide (b.cps.toList < a.cps.toList))) := (rfl)
theorem gtD_ii (S : List MO) (i j : Int) : gtD S (.int i) (.int j) = some (.bl (decide (j < i))) := (rfl)
theorem gtD_ss (S : List MO) (a b : Str) : gtD S (.str a) (.str b) = some (.bl (decide (b.cps.toList < a.cps.toList))) := (rfl)
theorem geD_ii (S : List MO) (i j : Int) : geD S (.int i) (.int j) = some (.bl (decide (j ≤ i))) := (rfl)
theorem geD_ss (S : List MO) (a b : Str) : geD S (.str a) (.str b) = some (.bl (!decide (a.cps.toList < b.cps.toList))) := (rfl)
theorem onI_ii (p : Int → Int → Bool) (f : Int → Int → D) (S : List MO) (i j : Int) : onI p f S (.int i) (.int j) = if p i j = true then some (f i j) else none := (rfl)
theorem addD_ii (S : List MO) (i j : Int) : addD S (.int i) (.int j) = some (.int (i + j)) := (rfl)
theorem addD_ss (S : List MO) (a b : Str) : addD S (.str a) (.str b) = if a.length + b.length ≤ sizeLine then some (.str (a ++ b)) else none := (rfl)
theorem addD_tt (S : List MO) (a b : List D) : addD S (.tup a) (.tup b) = if a.length + b.length ≤ sizeLine then some (.tup (a ++ b)) else none := (rfl)
theorem addD_ll (S : List MO) (a b : List D) : addD S (.lst a) (.lst b) = if a.length + b.length ≤ sizeLine then some (.lst (a ++ b)) else none := (rfl)
theorem mulD_ii (S : List MO) (i j : Int) : mulD S (.int i) (.int j) = if (-(2 ^ 64) < i ∧ i < 2 ^ 64) ∨ (-(2 ^ 64) < j ∧ j < 2 ^ 64) then some (.int (i * j)) else none := (rfl)
theorem mulD_si (S : List MO) (z : Str) (k : Int) : mulD S (.str z) (.int k) = if 0 ≤ k ∧ k ≤ 1000 ∧ z.length ≤ 1000 then some (.str ⟨(List.replicate k.toNat z.cps.toList).flatten.toArray⟩) else none := (rfl)
theorem mulD_li (S : List MO) (xs : List D) (k : Int) : mulD S (.lst xs) (.int k) = if 0 ≤ k ∧ k < 2 ^ 63 ∧ xs.length * k.toNat ≤ sizeLine then some (.lst (List.replicate k.toNat xs).flatten) else none := (rfl)
theorem ixD_si (S : List MO) (z : Str) (i : Int) : ixD S (.str z) (.int i) = (atI z.cps.toList i).map fun c => .str ⟨#[c]⟩ := (rfl)
theorem ixD_tup (S : List MO) (xs : List D) (i : Int) : ixD S (.tup xs) (.int i) = atI xs i := (rfl)
theorem ixD_lst (S : List MO) (xs : List D) (i : Int) : ixD S (.lst xs) (.int i) = atI xs i := (rfl)
theorem ixD_fl (S : List MO) (xs : List D) (i : Int) : ixD S (.fl xs) (.int i) = atI xs i := (rfl)
theorem ixD_ob (S : List MO) (n : Nat) (i : Int) : ixD S (.ob n) (.int i) = (seqOf S (.ob n)).bind fun xs => atI xs i := (rfl)
theorem seqOf_ob {S : List MO} {n : Nat} {xs : List D} (h : S[n]? = some (.ml xs)) : seqOf S (.ob n) = some xs := by simp only [seqOf, h]
theorem listOf_ob {S : List MO} {n : Nat} {xs : List D} (h : S[n]? = some (.ml xs)) : listOf S (.ob n) = some xs := by simp only [listOf, h]
theorem lenOf_ob {S : List MO} {n : Nat} {xs : List D} (h : S[n]? = some (.ml xs)) : lenOf S (.ob n) = some xs.length := by simp only [lenOf, seqOf, h]; rfl
theorem storeL_ob {S : List MO} {n j : Nat} {k : Int} {v : D} {xs : List D} (h : S[n]? = some (.ml xs)) (hj : ixN xs.length k = some j) : storeL (.ob n) (.int k) v S = .ok () (S.set n (.ml (xs.set j v))) := by simp only [storeL, h, hj]
theorem intD_i (S : List MO) (i : Int) : intD S [.int i] = some (.int i) := (rfl)
theorem intD_b (S : List MO) (b : Bool) : intD S [.bl b] = some (.int (if b then 1 else 0)) := (rfl)
theorem absD_i (S : List MO) (i : Int) : absD S [.int i] = some (.int (if i < 0 then -i else i)) := (rfl)
theorem max2D_ii (S : List MO) (i j : Int) : max2D S [.int i, .int j] = some (.int (if j > i then j else i)) := (rfl)
theorem min2D_ii (S : List MO) (i j : Int) : min2D S [.int i, .int j] = some (.int (if j < i then j else i)) := (rfl)
theorem slD_s (S : List MO) (z : Str) (lo hi : Option Int) : slD S (.str z) lo hi = some (.str (cutS z lo hi)) := (rfl)
theorem slD_t (S : List MO) (xs : List D) (lo hi : Option Int) : slD S (.tup xs) lo hi = some (.tup (cutL xs lo hi)) := (rfl)
theorem slD_l (S : List MO) (xs : List D) (lo hi : Option Int) : slD S (.lst xs) lo hi = if xs.length ≤ sizeLine then some (.lst (cutL xs lo hi)) else none := (rfl)
theorem intOf_i (i : Int) : intOf (.int i) = pure (some i) := (rfl)
theorem joinD_1 (S : List MO) (a : Str) (y : D) : joinD S (.str a) [y] = (seqOf S y).bind fun ds => (strsOf ds).bind fun ys => if (ys.map (·.length)).sum + ys.length * a.length ≤ 16777216 ∧ (Txt.join a ys).length ≤ sizeLine then some (.str (Txt.join a ys)) else none := (rfl)
theorem upperD_0 (S : List MO) (a : Str) : upperD S (.str a) [] = if a.length ≤ 5592405 ∧ (Txt.upper a).length ≤ sizeLine then some (.str (Txt.upper a)) else none := (rfl)
theorem reprBD_b (S : List MO) (b : Bool) : reprBD S [.bl b] = some (.str (if b then "True" else "False")) := (rfl)
theorem inD_eq (S : List MO) (x y : D) : inD S x y = (inB S x y).map .bl := (rfl)
theorem ninD_eq (S : List MO) (x y : D) : ninD S x y = (inB S x y).map fun b => .bl (!b) := (rfl)
theorem eqD_eq (S : List MO) (x y : D) : eqD S x y = (eqB S x y).map .bl := (rfl)
theorem neD_eq (S : List MO) (x y : D) : neD S x y = (eqB S x y).map fun b => .bl (!b) := (rfl)
theorem inB_sign (S : List MO) (c : Nat) (t : Str) : inB S (.str ⟨#[c]⟩) (.str t) = some (decide (c ∈ t.cps.toList)) := (rfl)
theorem eqB_ss (S : List MO) (a b : Str) : eqB S (.str a) (.str b) = some (decide (a = b)) := (rfl)
theorem eqB_ii (S : List MO) (a b : Int) : eqB S (.int a) (.int b) = some (decide (a = b)) := (rfl)
theorem isD_n (S : List MO) (x : D) : isD S x .non = some (.bl (isNone x)) := (rfl)
theorem isntD_n (S : List MO) (x : D) : isntD S x .non = some (.bl (!isNone x)) := (rfl)
theorem tupleD_t (S : List MO) (xs : List D) : tupleD S [.tup xs] = some (.tup xs) := (rfl)
theorem tupleD_l (S : List MO) (xs : List D) : tupleD S [.lst xs] = if xs.length ≤ sizeLine then some (.tup xs) else none := (rfl)
theorem listD_1 (S : List MO) (x : D) : listD S [x] = (seqOf S x).bind fun xs => if xs.length ≤ sizeLine then some (.lst xs) else none := (rfl)
theorem tyD_str (S : List MO) (z : Str) (T : String) : tyD T S (.str z) = (T == "str") := (rfl)
theorem rng1_i (j : Int) : rng1 [.int j] = if -(2 ^ 62) ≤ j ∧ j < 2 ^ 62 then pure (upD 0 j.toNat) else bad := (rfl)
theorem rng2_i (i j : Int) : rng2 [.int i, .int j] = if -(2 ^ 62) ≤ i ∧ i < 2 ^ 62 ∧ -(2 ^ 62) ≤ j ∧ j < 2 ^ 62 then pure (upD i (j - i).toNat) else bad := (rfl)
theorem forM_nil (g : D → Rho → M Rho) (body : Rho → M Fl) (ρ : Rho) : forM g body [] ρ = pure (.nx ρ) := (rfl)
theorem gSet_eq (i : Nat) (d : D) (ρ : Rho) : gSet i d ρ = pure (ρ.set i (some d)) := (rfl)
theorem bName_eq (i : Nat) (d : D) (ρ : Rho) : bName i d ρ = some (ρ.set i (some d)) := (rfl)
theorem wipeR_nil (ρ : Rho) : wipeR ρ [] = ρ := (rfl)
theorem wipeR_cons (ρ : Rho) (v : Nat) (vs : List Nat) : wipeR ρ (v :: vs) = (wipeR ρ vs).set v none := (rfl)
theorem obind_some {α β : Type} (a : α) (f : α → Option β) : (some a).bind f = f a := (rfl)
theorem obind_none {α β : Type} (f : α → Option β) : (none : Option α).bind f = none := (rfl)
theorem omap_some {α β : Type} (a : α) (f : α → β) : (some a).map f = some (f a) := (rfl)
theorem omap_none {α β : Type} (f : α → β) : (none : Option α).map f = none := (rfl)
theorem thenF_u (x : Unit) (f : Unit → M Fl) (S : List MO) : (Res.ok x S).andThen f = f x S := (rfl)
theorem kb_NoneType_int : kitB "NoneType" "int" = some false := by decide +kernel
theorem kb_NoneType_bool : kitB "NoneType" "bool" = some false := by decide +kernel
theorem kb_NoneType_str : kitB "NoneType" "str" = some false := by decide +kernel
theorem kb_NoneType_tuple : kitB "NoneType" "tuple" = some false := by decide +kernel
theorem kb_NoneType_list : kitB "NoneType" "list" = some false := by decide +kernel
theorem kb_NoneType_dict : kitB "NoneType" "dict" = some false := by decide +kernel
theorem kb_bool_int : kitB "bool" "int" = some true := by decide +kernel
theorem kb_bool_bool : kitB "bool" "bool" = some true := by decide +kernel
theorem kb_bool_str : kitB "bool" "str" = some false := by decide +kernel
theorem kb_bool_tuple : kitB "bool" "tuple" = some false := by decide +kernel
theorem kb_bool_list : kitB "bool" "list" = some false := by decide +kernel
theorem kb_bool_dict : kitB "bool" "dict" = some false := by decide +kernel
theorem kb_int_int : kitB "int" "int" = some true := by decide +kernel
theorem kb_int_bool : kitB "int" "bool" = some false := by decide +kernel
theorem kb_int_str : kitB "int" "str" = some false := by decide +kernel
theorem kb_int_tuple : kitB "int" "tuple" = some false := by decide +kernel
theorem kb_int_list : kitB "int" "list" = some false := by decide +kernel
theorem kb_int_dict : kitB "int" "dict" = some false := by decide +kernel
theorem kb_str_int : kitB "str" "int" = some false := by decide +kernel
theorem kb_str_bool : kitB "str" "bool" = some false := by decide +kernel
theorem kb_str_str : kitB "str" "str" = some true := by decide +kernel
theorem kb_str_tuple : kitB "str" "tuple" = some false := by decide +kernel
theorem kb_str_list : kitB "str" "list" = some false := by decide +kernel
theorem kb_str_dict : kitB "str" "dict" = some false := by decide +kernel
theorem kb_tuple_int : kitB "tuple" "int" = some false := by decide +kernel
theorem kb_tuple_bool : kitB "tuple" "bool" = some false := by decide +kernel
theorem kb_tuple_str : kitB "tuple" "str" = some false := by decide +kernel
theorem kb_tuple_tuple : kitB "tuple" "tuple" = some true := by decide +kernel
theorem kb_tuple_list : kitB "tuple" "list" = some false := by decide +kernel
theorem kb_tuple_dict : kitB "tuple" "dict" = some false := by decide +kernel
theorem kb_list_int : kitB "list" "int" = some false := by decide +kernel
theorem kb_list_bool : kitB "list" "bool" = some false := by decide +kernel
theorem kb_list_str : kitB "list" "str" = some false := by decide +kernel
theorem kb_list_tuple : kitB "list" "tuple" = some false := by decide +kernel
theorem kb_list_list : kitB "list" "list" = some true := by decide +kernel
theorem kb_list_dict : kitB "list" "dict" = some false := by decide +kernel
theorem kb_dict_int : kitB "dict" "int" = some false := by decide +kernel
theorem kb_dict_bool : kitB "dict" "bool" = some false := by decide +kernel
theorem kb_dict_str : kitB "dict" "str" = some false := by decide +kernel
theorem kb_dict_tuple : kitB "dict" "tuple" = some false := by decide +kernel
theorem kb_dict_list : kitB "dict" "list" = some false := by decide +kernel
theorem kb_dict_dict : kitB "dict" "dict" = some true := by decide +kernel
/-- a comprehension whose turns are plain -/
theorem compM_pure {f : D → M (Option D)} {S : List MO} (g : D → Option D) : ∀ (ds : List D), (∀ d ∈ ds, f d S = .ok (g d) S) → compM f ds S = .ok (ds.filterMap g) S
  | [], _ => rfl
  | d :: ds, h => by
    have h1 := h d List.mem_cons_self
    have h2 := compM_pure g ds fun e he => h e (List.mem_cons_of_mem _ he)
    simp only [compM, bind_app, noX_ok h1, h2, pure_app, then_ok]
    cases e : g d with
    | none => simp [List.filterMap_cons, e]
    | some r => simp [List.filterMap_cons, e]
theorem compM_map {f : D → M (Option D)} {S : List MO} (g : D → D) (ds : List D) (h : ∀ d ∈ ds, f d S = .ok (some (g d)) S) : compM f ds S = .ok (ds.map g) S := by
  rw [compM_pure (fun d => some (g d)) ds h, List.filterMap_eq_map']

/-- .. over encoded things -/
theorem compM_enc {α : Type} {f : D → M (Option D)} {S : List MO} (enc : α → D) (g : α → Option D) (xs : List α) (h : ∀ a ∈ xs, f (enc a) S = .ok (g a) S) : compM f (xs.map enc) S = .ok (xs.filterMap g) S := by
  induction xs with
  | nil => rfl
  | cons a xs ih =>
    have h1 := h a List.mem_cons_self
    have h2 := ih fun e he => h e (List.mem_cons_of_mem _ he)
    simp only [List.map_cons, compM, bind_app, noX_ok h1, h2, pure_app, then_ok]
    cases e : g a with
    | none => simp [List.filterMap_cons, e]
    | some r => simp [List.filterMap_cons, e]
theorem compM_encM {α : Type} {f : D → M (Option D)} {S : List MO} (enc : α → D) (g : α → D) (xs : List α) (h : ∀ a ∈ xs, f (enc a) S = .ok (some (g a)) S) : compM f (xs.map enc) S = .ok (xs.map g) S := by
  rw [compM_enc enc (fun d => some (g d)) xs h, List.filterMap_eq_map']
theorem le_of {n : Nat} {r r' : Res D} (h : r = r') : Le n r r' := h ▸ .refl
theorem sz_lit {n : Nat} (h : n ≤ 16777216) : (n ≤ sizeLine) = True := eq_true h
theorem disp1 (mk mv : Rho → M D) (ρ : Rho) : dispM [(mk, mv)] ρ = mk ρ >>= fun k => mv ρ >>= fun v => lift ((keyOf k).map fun k => .dk [k] [v]) := by
  show ((mk ρ >>= fun k => mv ρ >>= fun v => (pure [] : M _) >>= fun ps => pure ((k, v) :: ps)) >>= mkDict) = _
  rw [bind_assoc']
  refine congrArg _ (funext fun k => ?_)
  rw [bind_assoc']
  refine congrArg _ (funext fun v => ?_)
  show mkDict [(k, v)] = _
  unfold mkDict
  rw [if_pos (show [(k, v)].length ≤ 15 from (by decide : 1 ≤ 15))]
  unfold mergeD
  cases keyOf k <;> rfl
theorem keyOf_s (z : Str) : keyOf (.str z) = some (.inr z) := (rfl)
theorem keyOf_i (z : Int) : keyOf (.int z) = some (.inl z) := (rfl)
end PD
set_option Elab.async false
set_option linter.all false
set_option maxRecDepth 100000
namespace PD
open PySem PySem.Spec PyProof.Rows L2
/-! ### draws: a well is three ints -/
abbrev W3 := Int × Int × Int
def wl (w : W3) : MO := .ml [.int w.1, .int w.2.1, .int w.2.2]
abbrev Dr (α : Type) := W3 → α × W3
def dip (k : Int) : Dr Int := fun w =>
  if w.1 > 0 then (w.1 % k, (w.1 / k, w.2.1, w.2.2))
  else
    let c := w.2.2 + 1
    let one := (w.2.1 + 776531401 * c) % 2305843009213693867
    let two := one * one % 1000000000000037 * one + 7351 * c
    ((two + w.2.1) % 4398046510993 / 32 % k, (w.1, w.2.1, c))
theorem dip_range {k : Int} (hk : 0 < k) (w : W3) : 0 ≤ (dip k w).1 ∧ (dip k w).1 < k := by
  unfold dip
  split
  · exact ⟨Int.emod_nonneg _ (by omega), Int.emod_lt_of_pos _ hk⟩
  · exact ⟨Int.emod_nonneg _ (by omega), Int.emod_lt_of_pos _ hk⟩
theorem dip_nat {n : Nat} (hn : 0 < n) (w : W3) : ∃ i : Nat, i < n ∧ (dip (n : Int) w).1 = (i : Nat) := by
  obtain ⟨h1, h2⟩ := dip_range (k := (n : Int)) (by omega) w
  exact ⟨(dip (n : Int) w).1.toNat, by omega, by omega⟩
def Dr.bind {α β : Type} (m : Dr α) (f : α → Dr β) : Dr β := fun w => f (m w).1 (m w).2
def Dr.pure {α : Type} (a : α) : Dr α := fun w => (a, w)
def Dr.map {α β : Type} (f : α → β) (m : Dr α) : Dr β := fun w => (f (m w).1, (m w).2)
def mapDr {α β : Type} (f : α → Dr β) : List α → Dr (List β)
  | [] => fun w => ([], w)
  | a :: as => fun w => let r := f a w; let rs := mapDr f as r.2; (r.1 :: rs.1, rs.2)
theorem mapDr_len {α β : Type} (f : α → Dr β) : ∀ (as : List α) (w : W3), (mapDr f as w).1.length = as.length
  | [], _ => rfl
  | a :: as, w => by simp only [mapDr, List.length_cons, mapDr_len f as]
theorem mapDr_all {α β : Type} {p : β → Prop} (f : α → Dr β) : ∀ (as : List α) (w : W3), (∀ a ∈ as, ∀ w, p (f a w).1) → ∀ b ∈ (mapDr f as w).1, p b
  | [], _, _, b, hb => by simp [mapDr] at hb
  | a :: as, w, h, b, hb => by
    simp only [mapDr, List.mem_cons] at hb
    rcases hb with rfl | hb
    · exact h a List.mem_cons_self w
    · exact mapDr_all f as _ (fun a ha => h a (List.mem_cons_of_mem _ ha)) b hb
/-- with a test of its own ahead -/
def filtDr {α β : Type} (f : α → Dr (Option β)) : List α → Dr (List β)
  | [] => fun w => ([], w)
  | a :: as => fun w => let r := f a w; let rs := filtDr f as r.2; (r.1.toList ++ rs.1, rs.2)
def choose {α : Type} [Inhabited α] (xs : List α) : Dr α := fun w => let r := dip (xs.length : Int) w; (xs.getD r.1.toNat default, r.2)
theorem choose_mem {α : Type} [Inhabited α] {xs : List α} (h : xs ≠ []) (w : W3) : (choose xs w).1 ∈ xs := by
  have hl : 0 < xs.length := List.length_pos_iff.mpr h
  obtain ⟨i, hi, e⟩ := dip_nat hl w
  unfold choose
  simp only [e]
  rw [List.getD_eq_getElem?_getD, show ((i : Nat) : Int).toNat = i from rfl, List.getElem?_eq_getElem hi]
  exact List.getElem_mem hi
/-! the store with a well at n -/
def put (S : List MO) (n : Nat) (w : W3) : List MO := S.set n (wl w)
theorem put_get {S : List MO} {n : Nat} {w : W3} (h : n < S.length) : (put S n w)[n]? = some (wl w) := List.getElem?_set_self h
theorem put_len {S : List MO} {n : Nat} {w : W3} : (put S n w).length = S.length := List.length_set
theorem put_put {S : List MO} {n : Nat} {v w : W3} : put (put S n v) n w = put S n w := List.set_set ..
theorem put_self {S : List MO} {n : Nat} {w : W3} (h : S[n]? = some (wl w)) : put S n w = S := by
  obtain ⟨hn, e⟩ := List.getElem?_eq_some_iff.mp h
  show S.set n (wl w) = S
  rw [← e]
  exact List.set_getElem_self hn
theorem wl_cl (N : Nat) (w : W3) : (wl w).cl N = true := rfl
theorem SCl.put {S : List MO} (h : SCl S) (n : Nat) (w : W3) : SCl (put S n w) := fun m o e => by
  have e : (S.set n (wl w))[m]? = some o := e
  rw [put_len]
  by_cases hm : n = m
  · subst hm
    by_cases hn : n < S.length
    · rw [List.getElem?_set_self hn] at e; cases e; exact wl_cl _ _
    · rw [List.getElem?_eq_none (by simpa using Nat.not_lt.mp hn)] at e; cases e
  · rw [List.getElem?_set_ne hm] at e
    exact h m o e
/-- a def that draws from the well at n -/
def emb (n : Nat) (f : Dr D) : M D := fun S => match S[n]? with
  | some (.ml [.int a, .int b, .int c]) => .ok (f (a, b, c)).1 (put S n (f (a, b, c)).2)
  | _ => .bad
theorem emb_put {n : Nat} {f : Dr D} {S : List MO} {w : W3} (h : n < S.length) : emb n f (put S n w) = .ok (f w).1 (put S n (f w).2) := by
  unfold emb
  rw [put_get h]
  show Res.ok _ (put (put S n w) n _) = _
  rw [put_put]
theorem emb_cases {n : Nat} {f : Dr D} {S : List MO} (p : Res D → Prop) (hb : p .bad) (h : ∀ w, n < S.length → S = put S n w → p (.ok (f w).1 (put S n (f w).2))) : p (emb n f S) := by
  unfold emb
  split
  · rename_i a b c e
    obtain ⟨hn, e2⟩ := List.getElem?_eq_some_iff.mp e
    exact h (a, b, c) hn (put_self (w := (a, b, c)) e).symm
  · exact hb
theorem compM_draw {α β : Type} {f : D → M (Option D)} {n : Nat} {S : List MO} (h : n < S.length) (enc : α → D) (g : α → Dr β) (out : β → D) : ∀ (xs : List α) (w : W3), (∀ a ∈ xs, ∀ w, f (enc a) (put S n w) = .ok (some (out (g a w).1)) (put S n (g a w).2)) →
    compM f (xs.map enc) (put S n w) = .ok ((mapDr g xs w).1.map out) (put S n (mapDr g xs w).2)
  | [], w, _ => rfl
  | a :: as, w, hf => by
    have h1 := hf a List.mem_cons_self w
    have h2 := compM_draw h enc g out as (g a w).2 fun e he => hf e (List.mem_cons_of_mem _ he)
    simp only [List.map_cons, compM, bind_app, noX_ok h1, h2, pure_app, then_ok, mapDr]
    rfl
theorem compM_filt {α β : Type} {f : D → M (Option D)} {n : Nat} {S : List MO} (h : n < S.length) (enc : α → D) (g : α → Dr (Option β)) (out : β → D) : ∀ (xs : List α) (w : W3), (∀ a ∈ xs, ∀ w, f (enc a) (put S n w) = .ok ((g a w).1.map out) (put S n (g a w).2)) →
    compM f (xs.map enc) (put S n w) = .ok ((filtDr g xs w).1.map out) (put S n (filtDr g xs w).2)
  | [], w, _ => rfl
  | a :: as, w, hf => by
    have h1 := hf a List.mem_cons_self w
    have h2 := compM_filt h enc g out as (g a w).2 fun e he => hf e (List.mem_cons_of_mem _ he)
    simp only [List.map_cons, compM, bind_app, noX_ok h1, h2, pure_app, then_ok, filtDr]
    cases (g a w).1 <;> simp
/-- a for that goes through -/
theorem forM_inv {g : D → Rho → M Rho} {body : Rho → M Fl} (I : Rho → List MO → Prop) : ∀ (ds : List D) {ρ : Rho} {S : List MO}, (∀ d ∈ ds, ∀ ρ S, I ρ S → ∃ ρ1 S1, (g d ρ >>= body) S = .ok (.nx ρ1) S1 ∧ I ρ1 S1) → I ρ S →
    ∃ ρ' S', forM g body ds ρ S = .ok (.nx ρ') S' ∧ I ρ' S'
  | [], ρ, S, _, i => ⟨ρ, S, rfl, i⟩
  | d :: ds, ρ, S, h, i => by
    obtain ⟨ρ1, S1, e, i1⟩ := h d List.mem_cons_self ρ S i
    obtain ⟨ρ2, S2, e2, i2⟩ := forM_inv I ds (fun e he => h e (List.mem_cons_of_mem _ he)) i1
    refine ⟨ρ2, S2, ?_, i2⟩
    have e3 : forM g body (d :: ds) ρ = (g d ρ >>= body) >>= fun fl => match fl with
      | .nx ρ2 => forM g body ds ρ2
      | .ct ρ2 => forM g body ds ρ2
      | .bk ρ2 => pure (.nx ρ2)
      | .rt d => pure (.rt d) := by rw [bind_assoc']; rfl
    rw [e3, bind_app, e]
    exact e2
theorem upD_map (n : Nat) : upD 0 n = (List.range n).map fun i => .int (i : Nat) := by
  unfold upD
  refine List.map_congr_left fun i _ => ?_
  rw [Int.zero_add]
theorem upD_len (lo : Int) (n : Nat) : (upD lo n).length = n := by unfold upD; rw [List.length_map, List.length_range]
theorem put_seq {S : List MO} {n : Nat} {w : W3} (h : n < S.length) : seqOf (put S n w) (.ob n) = some [.int w.1, .int w.2.1, .int w.2.2] := seqOf_ob (put_get h)
theorem ixw0 {S : List MO} {n : Nat} {w : W3} (h : n < S.length) : ixD (put S n w) (.ob n) (.int 0) = some (.int w.1) := by rw [ixD_ob, put_seq h]; rfl
theorem ixw1 {S : List MO} {n : Nat} {w : W3} (h : n < S.length) : ixD (put S n w) (.ob n) (.int 1) = some (.int w.2.1) := by rw [ixD_ob, put_seq h]; rfl
theorem ixw2 {S : List MO} {n : Nat} {w : W3} (h : n < S.length) : ixD (put S n w) (.ob n) (.int 2) = some (.int w.2.2) := by rw [ixD_ob, put_seq h]; rfl
theorem stw0 {S : List MO} {n : Nat} {w : W3} {v : Int} (h : n < S.length) : storeL (.ob n) (.int 0) (.int v) (put S n w) = .ok () (put S n (v, w.2.1, w.2.2)) := by
  rw [storeL_ob (put_get h) (j := 0) (by rfl)]
  show Res.ok () (put (put S n w) n (v, w.2.1, w.2.2)) = _
  rw [put_put]
theorem stw2 {S : List MO} {n : Nat} {w : W3} {v : Int} (h : n < S.length) : storeL (.ob n) (.int 2) (.int v) (put S n w) = .ok () (put S n (w.1, w.2.1, v)) := by
  rw [storeL_ob (put_get h) (j := 2) (by rfl)]
  show Res.ok () (put (put S n w) n (w.1, w.2.1, v)) = _
  rw [put_put]
theorem strD_len (z : Str) : (strD z).length = z.length := by unfold strD; rw [List.length_map, Array.length_toList]; rfl
theorem atI_get {α : Type} (xs : List α) (i : Nat) (h : i < xs.length) : atI xs (i : Int) = xs[i]? := by
  unfold atI ixN
  rw [if_pos (by omega), if_pos (by omega)]
  rfl
theorem atI_str (z : Str) (i : Nat) (h : i < z.length) : (atI z.cps.toList (i : Int)).map (fun c => D.str ⟨#[c]⟩) = some ((strD z).getD i default) := by
  have e1 : z.cps.toList.length = z.length := Array.length_toList
  rw [atI_get _ _ (by rw [e1]; exact h), List.getD_eq_getElem?_getD]
  unfold strD
  rw [List.getElem?_map, List.getElem?_eq_getElem (by rw [e1]; exact h)]
  rfl
/-! lists emptied -/
theorem data_strs (n : Nat) : ∀ cs : List Nat, D.dataAll n (cs.map fun c => D.str ⟨#[c]⟩) = true
  | [] => by unfold D.dataAll; rfl
  | c :: cs => by
    rw [List.map_cons]
    unfold D.dataAll
    rw [data_strs n cs]
    cases n <;> rfl
theorem eqGs_nil (xs : List D) : eqGs xs [] = xs.isEmpty := by cases xs <;> rfl
theorem eqB_signs0 (S : List MO) (cs : List Nat) : eqB S (.lst (cs.map fun c => D.str ⟨#[c]⟩)) (.lst []) = some cs.isEmpty := by
  have e : eqB S (.lst (cs.map fun c => D.str ⟨#[c]⟩)) (.lst []) = if D.dataAll 59 (cs.map fun c => D.str ⟨#[c]⟩) = true ∧ true = true then some (eqGs (cs.map fun c => D.str ⟨#[c]⟩) []) else none := rfl
  rw [e, if_pos ⟨data_strs 59 cs, rfl⟩, eqGs_nil]
  cases cs <;> rfl
/-! the great powers -/
@[irreducible] def P59 : Int := 10 ^ 59
@[irreducible] def P590 : Int := (10 ^ 59) ^ 10
@[irreducible] def P15 : Int := 10 ^ 15
@[irreducible] def P39 : Int := 10 ^ 39
@[irreducible] def P38 : Int := 10 ^ 38
theorem powDW_ok {i j : Int} (S : List MO) (h : decide (0 ≤ j ∧ (Builtin.Int.intBits i : Int) * j ≤ 2 ^ 27) = true) : powDW S (.int i) (.int j) = some (.int (i ^ j.toNat)) := by
  show (if _ = true then _ else _) = _
  rw [if_pos h]
theorem pow59 (S : List MO) : powDW S (.int 10) (.int 59) = some (.int P59) := by unfold P59; exact powDW_ok S (by decide +kernel)
theorem pow15 (S : List MO) : powDW S (.int 10) (.int 15) = some (.int P15) := by unfold P15; exact powDW_ok S (by decide +kernel)
theorem pow39 (S : List MO) : powDW S (.int 10) (.int 39) = some (.int P39) := by unfold P39; exact powDW_ok S (by decide +kernel)
theorem pow38 (S : List MO) : powDW S (.int 10) (.int 38) = some (.int P38) := by unfold P38; exact powDW_ok S (by decide +kernel)
theorem pow590 (S : List MO) : powDW S (.int P59) (.int 10) = some (.int P590) := by unfold P59 P590; exact powDW_ok S (by decide +kernel)
theorem P590_pos : 0 < P590 := by unfold P590; decide +kernel
def wellOf (ns : List Int) (k : Int) : W3 :=
  let cell := if k < ns.length then ns.getD k.toNat 0 else 71 * k + 37
  let great := (if cell < 0 then -cell else cell) % P590
  let seed := (great * 1000253 + 8969 * k + 47 * (if cell < 0 then 1 else 0) + 19) % 1152921504606846803
  (if great - P15 > 0 then great - P15 else 0, seed, 0)
end PD

set_option Elab.async false
set_option linter.all false
set_option maxRecDepth 100000
namespace PD
open PySem PySem.Spec PyProof.Rows L2
theorem Dats.ints {K : Frag} {ι : Nat → Addr} {N : Nat} {B : Hp} : ∀ (ns : List Int), Dats K ι N B (ns.map V.int) (ns.map D.int)
  | [] => .nil
  | n :: ns => .cons (.int n) (Dats.ints ns)
/-- a law's def at its own input -/
theorem law_entry {F : List D → M D} {K : Frag} {H : Hp} {a : Addr} {ns : List Int} (hl : ns.length ≤ 63) (hS : SqL K H a (ns.map V.int))
    (hF : F [.fl (ns.map D.int)] [] = .ok (.bl true) []) : spM K 1 F [.ref a] H (fun v _ => v = .bl true) (fun _ _ _ => False) := by
  refine ⟨{ ι := fun _ => 0, B := H, S := [], H := H }, [.fl (ns.map D.int)], rfl, ⟨fun a o h => h, fun n h => absurd h (Nat.not_lt_zero n), fun n o h => by simp at h, fun n m h => absurd h (Nat.not_lt_zero n)⟩, .cons (.fl hS ?_ (Dats.ints ns)) .nil, rfl, ?_⟩
  · rw [List.length_map]; exact Nat.le_trans hl (by decide)
  · show Pst K _ _ (F [.fl (ns.map D.int)] []) _
    rw [hF]
    intro w' e x d v h
    cases h
    rfl
theorem noFall {P : Program} (w : World) (H : Hp) (s : Shared) (e : Value) (s' : Shared) (h : L2.CX P w [] H s (fun _ _ _ => False) e s') : False := by
  obtain ⟨a, B, H', cls, d, _, _, _, _, _, _, _, z⟩ := h
  exact z
end PD

set_option Elab.async false
set_option linter.all false
set_option maxRecDepth 100000
set_option maxHeartbeats 400000
namespace PD
open PySem PySem.Spec PyProof.Rows L2
def topN (i : Nat) : Stmt := PySem.Challenge.pw_answeredabove_k01_names.main.body.getD i (.Pass ⟨0, 0, 0, 0⟩)
theorem bl {E : XK} : Blind (fun c d _ H => E c d H) := fun _ _ _ _ _ h => h
abbrev s_is_name : Stmt := topN 3
abbrev s__law_well : Stmt := topN 5
abbrev s__law_dip : Stmt := topN 6
abbrev s__law_choose : Stmt := topN 7
abbrev s__law_is_word : Stmt := topN 8
abbrev s__law_right : Stmt := topN 9
abbrev s_law : Stmt := topN 10
theorem bo_abs : bootBuiltins "abs" = some (.builtin "abs") := by decide +kernel
theorem bo_all : bootBuiltins "all" = some (.builtin "all") := by decide +kernel
theorem bo_int : bootBuiltins "int" = some (.type "int") := by decide +kernel
theorem bo_isinstance : bootBuiltins "isinstance" = some (.builtin "isinstance") := by decide +kernel
theorem bo_len : bootBuiltins "len" = some (.builtin "len") := by decide +kernel
theorem bo_max : bootBuiltins "max" = some (.builtin "max") := by decide +kernel
theorem bo_min : bootBuiltins "min" = some (.builtin "min") := by decide +kernel
theorem bo_range : bootBuiltins "range" = some (.type "range") := by decide +kernel
theorem bo_repr : bootBuiltins "repr" = some (.builtin "repr") := by decide +kernel
theorem bo_str : bootBuiltins "str" = some (.type "str") := by decide +kernel
structure Ad where
  f_is_name : Addr
  d_is_name : FuncData
  f__law_well : Addr
  d__law_well : FuncData
  f__law_dip : Addr
  d__law_dip : FuncData
  f__law_choose : Addr
  d__law_choose : FuncData
  f__law_is_word : Addr
  d__law_is_word : FuncData
  f__law_right : Addr
  d__law_right : FuncData
  f_law : Addr
  d_law : FuncData
  t_LETTERS : Tok
  t_MAX_LETTERS : Tok
structure Txt (K : Frag) (mg : Str → Option Value) (a : Ad) : Prop where
  F_is_name : Fun K "is_name" "is_name" s_is_name a.f_is_name a.d_is_name
  g_is_name : mg "is_name" = some (.ref a.f_is_name)
  B_is_name : Binds K a.d_is_name ["value"] []
  F__law_well : Fun K "_law_well" "_law_well" s__law_well a.f__law_well a.d__law_well
  g__law_well : mg "_law_well" = some (.ref a.f__law_well)
  B__law_well : Binds K a.d__law_well ["_law_script", "_law_spot"] []
  F__law_dip : Fun K "_law_dip" "_law_dip" s__law_dip a.f__law_dip a.d__law_dip
  g__law_dip : mg "_law_dip" = some (.ref a.f__law_dip)
  B__law_dip : Binds K a.d__law_dip ["_law_well_here", "_law_size"] []
  F__law_choose : Fun K "_law_choose" "_law_choose" s__law_choose a.f__law_choose a.d__law_choose
  g__law_choose : mg "_law_choose" = some (.ref a.f__law_choose)
  B__law_choose : Binds K a.d__law_choose ["_law_well_here", "_law_items"] []
  F__law_is_word : Fun K "_law_is_word" "_law_is_word" s__law_is_word a.f__law_is_word a.d__law_is_word
  g__law_is_word : mg "_law_is_word" = some (.ref a.f__law_is_word)
  B__law_is_word : Binds K a.d__law_is_word ["_law_value"] []
  F__law_right : Fun K "_law_right" "_law_right" s__law_right a.f__law_right a.d__law_right
  g__law_right : mg "_law_right" = some (.ref a.f__law_right)
  B__law_right : Binds K a.d__law_right ["_law_well_here"] []
  F_law : Fun K "law" "law" s_law a.f_law a.d_law
  g_law : mg "law" = some (.ref a.f_law)
  B_law : Binds K a.d_law ["_law_script"] []
  b_abs : mg "abs" = none
  b_all : mg "all" = none
  b_int : mg "int" = none
  b_isinstance : mg "isinstance" = none
  b_len : mg "len" = none
  b_max : mg "max" = none
  b_min : mg "min" = none
  b_range : mg "range" = none
  b_repr : mg "repr" = none
  b_str : mg "str" = none
  c_LETTERS : mg "LETTERS" = some (.str "abcdefghijklmnopqrstuvwxyz" a.t_LETTERS)
  c_MAX_LETTERS : mg "MAX_LETTERS" = some (.int 8 a.t_MAX_LETTERS)
theorem sc_is_name : FnScope ["value", "letter"] ["value"] (defScope s_is_name) := ⟨rfl, rfl, rfl, by decide +kernel, rfl, by decide +kernel, by decide +kernel⟩
theorem sc__law_well : FnScope ["_law_script", "_law_spot", "_law_cell", "_law_great", "_law_seed"] ["_law_script", "_law_spot"] (defScope s__law_well) := ⟨rfl, rfl, rfl, by decide +kernel, rfl, by decide +kernel, by decide +kernel⟩
theorem sc__law_dip : FnScope ["_law_well_here", "_law_size", "_law_one", "_law_two", "_law_found"] ["_law_well_here", "_law_size"] (defScope s__law_dip) := ⟨rfl, rfl, rfl, by decide +kernel, rfl, by decide +kernel, by decide +kernel⟩
theorem sc__law_choose : FnScope ["_law_well_here", "_law_items"] ["_law_well_here", "_law_items"] (defScope s__law_choose) := ⟨rfl, rfl, rfl, by decide +kernel, rfl, by decide +kernel, by decide +kernel⟩
theorem sc__law_is_word : FnScope ["_law_value", "_law_sign"] ["_law_value"] (defScope s__law_is_word) := ⟨rfl, rfl, rfl, by decide +kernel, rfl, by decide +kernel, by decide +kernel⟩
theorem sc__law_right : FnScope ["_law_well_here", "_law_signs", "_law_word", "_law_at", "_law_odd", "_law_some", "_law_turn", "_law_value"] ["_law_well_here"] (defScope s__law_right) := ⟨rfl, rfl, rfl, by decide +kernel, rfl, by decide +kernel, by decide +kernel⟩
theorem sc_law : FnScope ["_law_script", "_law_spot", "_law_told", "_law_well_here", "_law_turn", "_law_word"] ["_law_script"] (defScope s_law) := ⟨rfl, rfl, rfl, by decide +kernel, rfl, by decide +kernel, by decide +kernel⟩
section
variable {P : Program} {w : World} {K : Frag} {mg : Str → Option Value} {base : Heap} {a : Ad}

def alpha : Str := "abcdefghijklmnopqrstuvwxyz"
def isName (x : Str) : Bool := decide (0 < (x.length : Int)) && (decide ((x.length : Int) ≤ 8) && x.cps.toList.all fun c => decide (c ∈ alpha.cps.toList))
/-- what holds of texts alone; false of other data -/
def plainK (S : List MO) : D → Bool
  | .non => true
  | .bl _ => true
  | .int _ => true
  | .tup _ => true
  | .lst _ => true
  | .fl _ => true
  | .dk _ _ => true
  | .dt _ _ => true
  | _ => false
def onStr1 (p : Str → Bool) (d : D) : M D := match d with
  | .str x => pure (.bl (p x))
  | d => fun S => if plainK S d = true then .ok (.bl false) S else .bad
def onStr (p : Str → Bool) (ds : List D) : M D := match ds with
  | [] => bad
  | d :: _ => onStr1 p d
theorem onStr_1 (p : Str → Bool) (d : D) : onStr p [d] = onStr1 p d := rfl
theorem onStr1_s (p : Str → Bool) (x : Str) : onStr1 p (.str x) = pure (.bl (p x)) := rfl
def F_is_name : List D → M D := onStr isName
def den_is_name : Rho → M Fl := (seqS (ifS (orT (notT (asT (bltM (consM (fun ρ => lift (slot ρ 0)) (consM (fun _ => pure (.ty "str")) (fun _ => pure []))) isiD))) (notT (asT (chain3 (fun _ => pure (.int 0)) (bltM (consM (fun ρ => lift (slot ρ 0)) (fun _ => pure [])) lenD) (fun _ => pure (.int 8)) ltD leD)))) (retS (fun _ => pure (.bl false))) skipS) (retS (bltM (consM (lcMM [1] (valI (fun ρ => lift (slot ρ 0))) (bName 1) (fun _ => pure true) (do2 (fun ρ => lift (slot ρ 1)) (fun _ => pure (.str "abcdefghijklmnopqrstuvwxyz")) inD)) (fun _ => pure [])) allD)))
theorem tm_is_name (T : Txt K mg a) (cdv : Value) (A : Around) (outer : List Env) (s : Shared) (H : Hp) (E : XK) (hr : Room 0 (A.deeper (envOfC "is_name" (defScope s_is_name) s.heap.objs.size a.f_is_name cdv))) :
    PDSs (cxOf (L2.CX P w) P w K mg base ["value", "letter"] "is_name" (defScope s_is_name) a.f_is_name cdv A outer s H E) (fun c d _ H => E c d H) (defBody s_is_name) den_is_name := by
  have tk : Takes (cxOf (L2.CX P w) P w K mg base ["value", "letter"] "is_name" (defScope s_is_name) a.f_is_name cdv A outer s H E) (fun c d _ H => E c d H) := takes_of rfl rfl rfl rfl
  exact (pdss_cons bl (pds_if (PDW.pt (pdw_or (pdt_not (pdt_val (pd_blt c_isi (by rfl) T.b_isinstance bo_isinstance (pda_cons (pd_var 0) (pda_cons (pd_ty (by rfl) T.b_str bo_str) pda_nil))))) (pdw_or1 (pdt_not (pdt_chain o_lt o_le pd_int (pd_blt c_len (by rfl) T.b_len bo_len (pda_cons (pd_var 0) pda_nil)) (pd_globI (by rfl) T.c_MAX_LETTERS)))))) (pdss_one (pds_ret pd_bl)) pdss_nil) (pdss_one (pds_ret (pd_blt (c_all rfl) (by rfl) T.b_all bo_all (pda_cons (pd_lc [("letter", 1)] rfl sc_is_name.nd (pdi_val (pd_var 0)) (blkOk_by (N := ["value", "letter"]) (sc := defScope s_is_name) (by decide +kernel)) (fun _ _ _ _ _ => (pg_name (i := 1) sc_is_name.nd rfl (Or.inl rfl))) ot_name (fun _ _ _ _ _ => pdts_nil) (fun _ _ _ _ _ => (pd_cmp o_in (pd_var 1) (pd_globS (by rfl) T.c_LETTERS) (by rfl)))) pda_nil)))))
theorem ok_is_name (T : Txt K mg a) : FnOk P w K mg base (L2.CX P w) 1 a.f_is_name a.d_is_name ["value"] (spM K 1 F_is_name) :=
  def_ok T.F_is_name sc_is_name (fun cdv A outer s H E hr => tm_is_name T cdv A outer s H E hr) fun ds S hl hc hf hs => by
  match ds, hl with
  | [d], _ =>
  show Le _ _ ((den_is_name [some d, none] >>= retF) S)
  cases d with
  | str x =>
    have hx : x.length ≤ sizeLine := by simpa [D.fitAll, D.fit] using hf
    refine le_of ?_
    have hcomp : compM (oneM (bName 1) (fun x => pure true) (do2 (fun ρ => lift (slot ρ 1)) (fun x => pure (D.str "abcdefghijklmnopqrstuvwxyz")) inD) [some (D.str x), none]) (strD x) S
        = .ok (x.cps.toList.map fun c => .bl (decide (c ∈ alpha.cps.toList))) S := by
      refine compM_encM (fun c => .str ⟨#[c]⟩) _ _ fun c _ => ?_
      simp only [pure_app, bad_app, bind_app, then_ok, then_exc, then_bad, lift_app, toRes_some, toRes_none, ite_app, slot_zero, slot_succ, thenF_nx, thenF_rt, thenF_bk, thenF_ct, isB_bl, retF_rt, retF_nx, itemsOf_tup, itemsOf_lst, itemsOf_fl, itemsOf_str, tyName_non, tyName_bl, tyName_int, tyName_str, tyName_tup, tyName_lst, tyName_fl, tyName_dk, tyName_dt, seqOf_tup, lenOf_tup, seqOf_lst, lenOf_lst, seqOf_fl, lenOf_fl, listOf_lst, listOf_fl, lstOf_lst, lenOf_str, lenD_1, allD_1, anyD_1, isi_eq, ltD_ii, ltD_ss, leD_ii, leD_ss, gtD_ii, gtD_ss, geD_ii, geD_ss, onI_ii, addD_ii, addD_ss, addD_tt, addD_ll, mulD_ii, mulD_si, mulD_li, ixD_si, ixD_tup, ixD_lst, ixD_fl, ixD_ob, intD_i, intD_b, absD_i, max2D_ii, min2D_ii, slD_s, slD_t, slD_l, intOf_i, joinD_1, upperD_0, reprBD_b, inD_eq, ninD_eq, eqD_eq, neD_eq, inB_sign, eqB_ss, eqB_ii, isD_n, isntD_n, tupleD_t, tupleD_l, listD_1, tyD_str, rng1_i, rng2_i, forM_nil, gSet_eq, bName_eq, wipeR_nil, wipeR_cons, obind_some, obind_none, omap_some, omap_none, kb_NoneType_int, kb_NoneType_bool, kb_NoneType_str, kb_NoneType_tuple, kb_NoneType_list, kb_NoneType_dict, kb_bool_int, kb_bool_bool, kb_bool_str, kb_bool_tuple, kb_bool_list, kb_bool_dict, kb_int_int, kb_int_bool, kb_int_str, kb_int_tuple, kb_int_list, kb_int_dict, kb_str_int, kb_str_bool, kb_str_str, kb_str_tuple, kb_str_list, kb_str_dict, kb_tuple_int, kb_tuple_bool, kb_tuple_str, kb_tuple_tuple, kb_tuple_list, kb_tuple_dict, kb_list_int, kb_list_bool, kb_list_str, kb_list_tuple, kb_list_list, kb_list_dict, kb_dict_int, kb_dict_bool, kb_dict_str, kb_dict_tuple, kb_dict_list, kb_dict_dict, seqS, ifS, retS, setS, dropS, skipS, asT, notT, andT, orT, ofT, andV, orV, notV, ifM, do2, opd, opd1, chain3, bltM, opl, consM, tupM, mkT, lstM, mkL, objMs, newL, alloc, fnM, methM, needT, oplm, sliceM, lcMM, oneM, valI, asgS, setIxS, forS, Bool.not_true, Bool.not_false, Bool.false_eq_true, if_false, if_true, reduceIte, List.set_cons_zero, List.set_cons_succ, decide_true, decide_false, Bool.true_and, Bool.false_and, Bool.and_true, Bool.and_false, Bool.true_or, Bool.false_or, Bool.or_true, Bool.or_false, sz_lit, disp1, keyOf_s, keyOf_i, pow59, pow15, pow39, pow38, pow590, decide_eq_true_eq, aT, or_true, beq_self_eq_true, true_or, Int.reduceNeg, Int.reducePow, Int.reduceLT, Int.reduceLE, Int.reduceToNat, Nat.reduceAdd, Nat.reduceLeDiff, Nat.reducePow, and_self, and_true, true_and, false_and, and_false, or_false, false_or, List.length_cons, List.length_nil]
      try rfl
    have hl : (x.cps.toList.map fun c => D.bl (decide (c ∈ alpha.cps.toList))).length ≤ sizeLine := by
      rw [List.length_map, Array.length_toList]; exact hx
    have hb := boolsOf_map (fun c => decide (c ∈ alpha.cps.toList)) x.cps.toList
    by_cases h1 : 0 < (x.length : Int) <;> by_cases h2 : (x.length : Int) ≤ 8 <;>
      simp only [den_is_name, F_is_name, onStr_1, onStr1_s, pure_app, bad_app, bind_app, then_ok, then_exc, then_bad, lift_app, toRes_some, toRes_none, ite_app, slot_zero, slot_succ, thenF_nx, thenF_rt, thenF_bk, thenF_ct, isB_bl, retF_rt, retF_nx, itemsOf_tup, itemsOf_lst, itemsOf_fl, itemsOf_str, tyName_non, tyName_bl, tyName_int, tyName_str, tyName_tup, tyName_lst, tyName_fl, tyName_dk, tyName_dt, seqOf_tup, lenOf_tup, seqOf_lst, lenOf_lst, seqOf_fl, lenOf_fl, listOf_lst, listOf_fl, lstOf_lst, lenOf_str, lenD_1, allD_1, anyD_1, isi_eq, ltD_ii, ltD_ss, leD_ii, leD_ss, gtD_ii, gtD_ss, geD_ii, geD_ss, onI_ii, addD_ii, addD_ss, addD_tt, addD_ll, mulD_ii, mulD_si, mulD_li, ixD_si, ixD_tup, ixD_lst, ixD_fl, ixD_ob, intD_i, intD_b, absD_i, max2D_ii, min2D_ii, slD_s, slD_t, slD_l, intOf_i, joinD_1, upperD_0, reprBD_b, inD_eq, ninD_eq, eqD_eq, neD_eq, inB_sign, eqB_ss, eqB_ii, isD_n, isntD_n, tupleD_t, tupleD_l, listD_1, tyD_str, rng1_i, rng2_i, forM_nil, gSet_eq, bName_eq, wipeR_nil, wipeR_cons, obind_some, obind_none, omap_some, omap_none, kb_NoneType_int, kb_NoneType_bool, kb_NoneType_str, kb_NoneType_tuple, kb_NoneType_list, kb_NoneType_dict, kb_bool_int, kb_bool_bool, kb_bool_str, kb_bool_tuple, kb_bool_list, kb_bool_dict, kb_int_int, kb_int_bool, kb_int_str, kb_int_tuple, kb_int_list, kb_int_dict, kb_str_int, kb_str_bool, kb_str_str, kb_str_tuple, kb_str_list, kb_str_dict, kb_tuple_int, kb_tuple_bool, kb_tuple_str, kb_tuple_tuple, kb_tuple_list, kb_tuple_dict, kb_list_int, kb_list_bool, kb_list_str, kb_list_tuple, kb_list_list, kb_list_dict, kb_dict_int, kb_dict_bool, kb_dict_str, kb_dict_tuple, kb_dict_list, kb_dict_dict, seqS, ifS, retS, setS, dropS, skipS, asT, notT, andT, orT, ofT, andV, orV, notV, ifM, do2, opd, opd1, chain3, bltM, opl, consM, tupM, mkT, lstM, mkL, objMs, newL, alloc, fnM, methM, needT, oplm, sliceM, lcMM, oneM, valI, asgS, setIxS, forS, Bool.not_true, Bool.not_false, Bool.false_eq_true, if_false, if_true, reduceIte, List.set_cons_zero, List.set_cons_succ, decide_true, decide_false, Bool.true_and, Bool.false_and, Bool.and_true, Bool.and_false, Bool.true_or, Bool.false_or, Bool.or_true, Bool.or_false, sz_lit, disp1, keyOf_s, keyOf_i, pow59, pow15, pow39, pow38, pow590, decide_eq_true_eq, aT, or_true, beq_self_eq_true, true_or, Int.reduceNeg, Int.reducePow, Int.reduceLT, Int.reduceLE, Int.reduceToNat, Nat.reduceAdd, Nat.reduceLeDiff, Nat.reducePow, and_self, and_true, true_and, false_and, and_false, or_false, false_or, List.length_cons, List.length_nil, h1, h2, hcomp, hl, hb, isName, List.all_map, Function.comp_def, id_eq]
  | ob n => exact Le.bad
  | ty n => exact Le.bad
  | ref n => exact Le.bad
  | ins n => exact Le.bad
  | _ =>
    refine le_of (Eq.trans (b := Res.ok (.bl false) S) rfl ?_)
    simp only [den_is_name, pure_app, bad_app, bind_app, then_ok, then_exc, then_bad, lift_app, toRes_some, toRes_none, ite_app, slot_zero, slot_succ, thenF_nx, thenF_rt, thenF_bk, thenF_ct, isB_bl, retF_rt, retF_nx, itemsOf_tup, itemsOf_lst, itemsOf_fl, itemsOf_str, tyName_non, tyName_bl, tyName_int, tyName_str, tyName_tup, tyName_lst, tyName_fl, tyName_dk, tyName_dt, seqOf_tup, lenOf_tup, seqOf_lst, lenOf_lst, seqOf_fl, lenOf_fl, listOf_lst, listOf_fl, lstOf_lst, lenOf_str, lenD_1, allD_1, anyD_1, isi_eq, ltD_ii, ltD_ss, leD_ii, leD_ss, gtD_ii, gtD_ss, geD_ii, geD_ss, onI_ii, addD_ii, addD_ss, addD_tt, addD_ll, mulD_ii, mulD_si, mulD_li, ixD_si, ixD_tup, ixD_lst, ixD_fl, ixD_ob, intD_i, intD_b, absD_i, max2D_ii, min2D_ii, slD_s, slD_t, slD_l, intOf_i, joinD_1, upperD_0, reprBD_b, inD_eq, ninD_eq, eqD_eq, neD_eq, inB_sign, eqB_ss, eqB_ii, isD_n, isntD_n, tupleD_t, tupleD_l, listD_1, tyD_str, rng1_i, rng2_i, forM_nil, gSet_eq, bName_eq, wipeR_nil, wipeR_cons, obind_some, obind_none, omap_some, omap_none, kb_NoneType_int, kb_NoneType_bool, kb_NoneType_str, kb_NoneType_tuple, kb_NoneType_list, kb_NoneType_dict, kb_bool_int, kb_bool_bool, kb_bool_str, kb_bool_tuple, kb_bool_list, kb_bool_dict, kb_int_int, kb_int_bool, kb_int_str, kb_int_tuple, kb_int_list, kb_int_dict, kb_str_int, kb_str_bool, kb_str_str, kb_str_tuple, kb_str_list, kb_str_dict, kb_tuple_int, kb_tuple_bool, kb_tuple_str, kb_tuple_tuple, kb_tuple_list, kb_tuple_dict, kb_list_int, kb_list_bool, kb_list_str, kb_list_tuple, kb_list_list, kb_list_dict, kb_dict_int, kb_dict_bool, kb_dict_str, kb_dict_tuple, kb_dict_list, kb_dict_dict, seqS, ifS, retS, setS, dropS, skipS, asT, notT, andT, orT, ofT, andV, orV, notV, ifM, do2, opd, opd1, chain3, bltM, opl, consM, tupM, mkT, lstM, mkL, objMs, newL, alloc, fnM, methM, needT, oplm, sliceM, lcMM, oneM, valI, asgS, setIxS, forS, Bool.not_true, Bool.not_false, Bool.false_eq_true, if_false, if_true, reduceIte, List.set_cons_zero, List.set_cons_succ, decide_true, decide_false, Bool.true_and, Bool.false_and, Bool.and_true, Bool.and_false, Bool.true_or, Bool.false_or, Bool.or_true, Bool.or_false, sz_lit, disp1, keyOf_s, keyOf_i, pow59, pow15, pow39, pow38, pow590, decide_eq_true_eq, aT, or_true, beq_self_eq_true, true_or, Int.reduceNeg, Int.reducePow, Int.reduceLT, Int.reduceLE, Int.reduceToNat, Nat.reduceAdd, Nat.reduceLeDiff, Nat.reducePow, and_self, and_true, true_and, false_and, and_false, or_false, false_or, List.length_cons, List.length_nil]

def intsOf : List D → Option (List Int)
  | [] => some []
  | .int i :: ds => (intsOf ds).map (i :: ·)
  | _ :: _ => none
theorem intsOf_some : ∀ (ds : List D) {ns : List Int}, intsOf ds = some ns → ds = ns.map D.int := fun ds => by
  induction ds with
  | nil => intro ns h; cases h; rfl
  | cons d ds ih =>
    intro ns h
    cases d with
    | int i =>
      have h : (intsOf ds).map (fun x => i :: x) = some ns := h
      rw [Option.map_eq_some_iff] at h
      obtain ⟨ms, h2, h3⟩ := h
      rw [← h3, ih h2, List.map_cons]
    | _ => exact nomatch h
theorem intsOf_map (ns : List Int) : intsOf (ns.map D.int) = some ns := by
  induction ns with
  | nil => rfl
  | cons n ns ih => show (intsOf (ns.map D.int)).map (n :: ·) = _; rw [ih]; rfl
def asFl : D → Option (List D)
  | .fl xs => some xs
  | _ => none
def asInt : D → Option Int
  | .int i => some i
  | _ => none
def asOb : D → Option Nat
  | .ob i => some i
  | _ => none
theorem asFl_some {d : D} {xs : List D} (h : asFl d = some xs) : d = .fl xs := by cases d <;> first | (cases h; rfl) | cases h
theorem asInt_some {d : D} {i : Int} (h : asInt d = some i) : d = .int i := by cases d <;> first | (cases h; rfl) | cases h
theorem asOb_some {d : D} {i : Nat} (h : asOb d = some i) : d = .ob i := by cases d <;> first | (cases h; rfl) | cases h
def F__law_well (ds : List D) : M D := fun S => match asFl (ds.getD 0 .non) with
  | none => .bad
  | some xs => match asInt (ds.getD 1 .non) with
    | none => .bad
    | some k => match intsOf xs with
      | none => .bad
      | some ns => if 0 ≤ k ∧ k < 1000 then .ok (.ob S.length) (S ++ [wl (wellOf ns k)]) else .bad
def den__law_well : Rho → M Fl := (seqS (setS 2 (ifM (asT (do2 (fun ρ => lift (slot ρ 1)) (bltM (consM (fun ρ => lift (slot ρ 0)) (fun _ => pure [])) lenD) ltD)) (do2 (fun ρ => lift (slot ρ 0)) (fun ρ => lift (slot ρ 1)) ixD) (do2 (do2 (fun _ => pure (.int 71)) (fun ρ => lift (slot ρ 1)) mulD) (fun _ => pure (.int 37)) addD))) (seqS (setS 3 (do2 (bltM (consM (bltM (consM (fun ρ => lift (slot ρ 2)) (fun _ => pure [])) absD) (fun _ => pure [])) intD) (do2 (do2 (fun _ => pure (.int 10)) (fun _ => pure (.int 59)) powDW) (fun _ => pure (.int 10)) powDW) modD)) (seqS (setS 4 (do2 (bltM (consM (do2 (do2 (do2 (do2 (fun ρ => lift (slot ρ 3)) (fun _ => pure (.int 1000253)) mulD) (do2 (fun _ => pure (.int 8969)) (fun ρ => lift (slot ρ 1)) mulD) addD) (do2 (fun _ => pure (.int 47)) (bltM (consM (do2 (fun ρ => lift (slot ρ 2)) (fun _ => pure (.int 0)) ltD) (fun _ => pure [])) intD) mulD) addD) (fun _ => pure (.int 19)) addD) (fun _ => pure [])) intD) (fun _ => pure (.int 1152921504606846803)) modD)) (retS (objMs (consM (bltM (consM (fun _ => pure (.int 0)) (consM (do2 (fun ρ => lift (slot ρ 3)) (do2 (fun _ => pure (.int 10)) (fun _ => pure (.int 15)) powDW) subD) (fun _ => pure []))) max2D) (consM (fun ρ => lift (slot ρ 4)) (consM (fun _ => pure (.int 0)) (fun _ => pure [])))))))))
theorem tm__law_well (T : Txt K mg a) (cdv : Value) (A : Around) (outer : List Env) (s : Shared) (H : Hp) (E : XK) (hr : Room 0 (A.deeper (envOfC "_law_well" (defScope s__law_well) s.heap.objs.size a.f__law_well cdv))) :
    PDSs (cxOf (L2.CX P w) P w K mg base ["_law_script", "_law_spot", "_law_cell", "_law_great", "_law_seed"] "_law_well" (defScope s__law_well) a.f__law_well cdv A outer s H E) (fun c d _ H => E c d H) (defBody s__law_well) den__law_well := by
  have tk : Takes (cxOf (L2.CX P w) P w K mg base ["_law_script", "_law_spot", "_law_cell", "_law_great", "_law_seed"] "_law_well" (defScope s__law_well) a.f__law_well cdv A outer s H E) (fun c d _ H => E c d H) := takes_of rfl rfl rfl rfl
  exact (pdss_cons bl (pds_set 2 (pd_if (pdt_cmp o_lt (pd_var 1) (pd_blt c_len (by rfl) T.b_len bo_len (pda_cons (pd_var 0) pda_nil)) (nomark _)) (pd_ix (pd_var 0) (pd_var 1)) (pd_op o_add (pd_op o_mul pd_int (pd_var 1)) pd_int)) sc__law_well.nd) (pdss_cons bl (pds_set 3 (pd_op o_mod (pd_bty c_int (by rfl) T.b_int bo_int (pda_cons (pd_blt c_abs (by rfl) T.b_abs bo_abs (pda_cons (pd_var 2) pda_nil)) pda_nil)) (pd_op o_powW (pd_op o_powW pd_int pd_int) pd_int)) sc__law_well.nd) (pdss_cons bl (pds_set 4 (pd_op o_mod (pd_bty c_int (by rfl) T.b_int bo_int (pda_cons (pd_op o_add (pd_op o_add (pd_op o_add (pd_op o_mul (pd_var 3) pd_int) (pd_op o_mul pd_int (pd_var 1))) (pd_op o_mul pd_int (pd_bty c_int (by rfl) T.b_int bo_int (pda_cons (pd_cmp o_lt (pd_var 2) pd_int (nomark _)) pda_nil)))) pd_int) pda_nil)) pd_int) sc__law_well.nd) (pdss_one (pds_ret (pd_obj (pda_cons (pd_blt (c_max2 rfl) (by rfl) T.b_max bo_max (pda_cons pd_int (pda_cons (pd_op o_sub (pd_var 3) (pd_op o_powW pd_int pd_int)) pda_nil))) (pda_cons (pd_var 4) (pda_cons pd_int pda_nil)))))))))
theorem ok__law_well (T : Txt K mg a) : FnOk P w K mg base (L2.CX P w) 1 a.f__law_well a.d__law_well ["_law_script", "_law_spot"] (spM K 2 F__law_well) :=
  def_ok T.F__law_well sc__law_well (fun cdv A outer s H E hr => tm__law_well T cdv A outer s H E hr) fun ds S hl hc hf hs => by
  match ds, hl with
  | [d, e], _ =>
  show Le _ _ ((den__law_well [some d, some e, none, none, none] >>= retF) S)
  unfold F__law_well
  show Le _ (match asFl d with | none => .bad | some xs => match asInt e with | none => .bad | some k => match intsOf xs with | none => .bad | some ns => if 0 ≤ k ∧ k < 1000 then .ok (.ob S.length) (S ++ [wl (wellOf ns k)]) else .bad) _
  cases h1 : asFl d with
  | none => exact Le.bad
  | some xs =>
  cases h2 : asInt e with
  | none => exact Le.bad
  | some k =>
  obtain rfl := asFl_some h1
  obtain rfl := asInt_some h2
  dsimp only
  cases hn : intsOf xs with
  | none => exact Le.bad
  | some ns =>
  dsimp only
  by_cases hk : 0 ≤ k ∧ k < 1000
  · rw [if_pos hk]
    refine le_of ?_
    obtain rfl := intsOf_some _ hn
    obtain ⟨i, rfl⟩ : ∃ i : Nat, k = (i : Int) := ⟨k.toNat, by omega⟩
    have hP := P590_pos
    have z1 : (3 : Nat) ≤ sizeLine := by decide
    have t1 : (Int.ofNat i).toNat = i := rfl
    have hget : atI (ns.map D.int) (i : Int) = (ns[i]?).map D.int := by
      unfold atI ixN
      rw [if_pos (by omega), List.length_map]
      by_cases hc : (i : Int) < (ns.length : Nat)
      · rw [if_pos hc]; show (ns.map D.int)[i]? = _; rw [List.getElem?_map]
      · rw [if_neg hc, List.getElem?_eq_none (by omega)]; rfl
    by_cases hc : (i : Int) < (ns.length : Nat)
    · have hx : ns[i]? = some (ns.getD i 0) := by
        rw [List.getD_eq_getElem?_getD, List.getElem?_eq_getElem (by omega)]; rfl
      rw [hx] at hget
      simp only [den__law_well, pure_app, bad_app, bind_app, then_ok, then_exc, then_bad, lift_app, toRes_some, toRes_none, ite_app, slot_zero, slot_succ, thenF_nx, thenF_rt, thenF_bk, thenF_ct, isB_bl, retF_rt, retF_nx, itemsOf_tup, itemsOf_lst, itemsOf_fl, itemsOf_str, tyName_non, tyName_bl, tyName_int, tyName_str, tyName_tup, tyName_lst, tyName_fl, tyName_dk, tyName_dt, seqOf_tup, lenOf_tup, seqOf_lst, lenOf_lst, seqOf_fl, lenOf_fl, listOf_lst, listOf_fl, lstOf_lst, lenOf_str, lenD_1, allD_1, anyD_1, isi_eq, ltD_ii, ltD_ss, leD_ii, leD_ss, gtD_ii, gtD_ss, geD_ii, geD_ss, onI_ii, addD_ii, addD_ss, addD_tt, addD_ll, mulD_ii, mulD_si, mulD_li, ixD_si, ixD_tup, ixD_lst, ixD_fl, ixD_ob, intD_i, intD_b, absD_i, max2D_ii, min2D_ii, slD_s, slD_t, slD_l, intOf_i, joinD_1, upperD_0, reprBD_b, inD_eq, ninD_eq, eqD_eq, neD_eq, inB_sign, eqB_ss, eqB_ii, isD_n, isntD_n, tupleD_t, tupleD_l, listD_1, tyD_str, rng1_i, rng2_i, forM_nil, gSet_eq, bName_eq, wipeR_nil, wipeR_cons, obind_some, obind_none, omap_some, omap_none, kb_NoneType_int, kb_NoneType_bool, kb_NoneType_str, kb_NoneType_tuple, kb_NoneType_list, kb_NoneType_dict, kb_bool_int, kb_bool_bool, kb_bool_str, kb_bool_tuple, kb_bool_list, kb_bool_dict, kb_int_int, kb_int_bool, kb_int_str, kb_int_tuple, kb_int_list, kb_int_dict, kb_str_int, kb_str_bool, kb_str_str, kb_str_tuple, kb_str_list, kb_str_dict, kb_tuple_int, kb_tuple_bool, kb_tuple_str, kb_tuple_tuple, kb_tuple_list, kb_tuple_dict, kb_list_int, kb_list_bool, kb_list_str, kb_list_tuple, kb_list_list, kb_list_dict, kb_dict_int, kb_dict_bool, kb_dict_str, kb_dict_tuple, kb_dict_list, kb_dict_dict, seqS, ifS, retS, setS, dropS, skipS, asT, notT, andT, orT, ofT, andV, orV, notV, ifM, do2, opd, opd1, chain3, bltM, opl, consM, tupM, mkT, lstM, mkL, objMs, newL, alloc, fnM, methM, needT, oplm, sliceM, lcMM, oneM, valI, asgS, setIxS, forS, Bool.not_true, Bool.not_false, Bool.false_eq_true, if_false, if_true, reduceIte, List.set_cons_zero, List.set_cons_succ, decide_true, decide_false, Bool.true_and, Bool.false_and, Bool.and_true, Bool.and_false, Bool.true_or, Bool.false_or, Bool.or_true, Bool.or_false, sz_lit, disp1, keyOf_s, keyOf_i, pow59, pow15, pow39, pow38, pow590, decide_eq_true_eq, aT, or_true, beq_self_eq_true, true_or, Int.reduceNeg, Int.reducePow, Int.reduceLT, Int.reduceLE, Int.reduceToNat, Nat.reduceAdd, Nat.reduceLeDiff, Nat.reducePow, and_self, and_true, true_and, false_and, and_false, or_false, false_or, List.length_cons, List.length_nil, List.length_map, hc, hget, hP, z1]
      simp only [wl, wellOf, hc, if_true, Int.toNat_natCast]
      try rfl
    · simp only [den__law_well, pure_app, bad_app, bind_app, then_ok, then_exc, then_bad, lift_app, toRes_some, toRes_none, ite_app, slot_zero, slot_succ, thenF_nx, thenF_rt, thenF_bk, thenF_ct, isB_bl, retF_rt, retF_nx, itemsOf_tup, itemsOf_lst, itemsOf_fl, itemsOf_str, tyName_non, tyName_bl, tyName_int, tyName_str, tyName_tup, tyName_lst, tyName_fl, tyName_dk, tyName_dt, seqOf_tup, lenOf_tup, seqOf_lst, lenOf_lst, seqOf_fl, lenOf_fl, listOf_lst, listOf_fl, lstOf_lst, lenOf_str, lenD_1, allD_1, anyD_1, isi_eq, ltD_ii, ltD_ss, leD_ii, leD_ss, gtD_ii, gtD_ss, geD_ii, geD_ss, onI_ii, addD_ii, addD_ss, addD_tt, addD_ll, mulD_ii, mulD_si, mulD_li, ixD_si, ixD_tup, ixD_lst, ixD_fl, ixD_ob, intD_i, intD_b, absD_i, max2D_ii, min2D_ii, slD_s, slD_t, slD_l, intOf_i, joinD_1, upperD_0, reprBD_b, inD_eq, ninD_eq, eqD_eq, neD_eq, inB_sign, eqB_ss, eqB_ii, isD_n, isntD_n, tupleD_t, tupleD_l, listD_1, tyD_str, rng1_i, rng2_i, forM_nil, gSet_eq, bName_eq, wipeR_nil, wipeR_cons, obind_some, obind_none, omap_some, omap_none, kb_NoneType_int, kb_NoneType_bool, kb_NoneType_str, kb_NoneType_tuple, kb_NoneType_list, kb_NoneType_dict, kb_bool_int, kb_bool_bool, kb_bool_str, kb_bool_tuple, kb_bool_list, kb_bool_dict, kb_int_int, kb_int_bool, kb_int_str, kb_int_tuple, kb_int_list, kb_int_dict, kb_str_int, kb_str_bool, kb_str_str, kb_str_tuple, kb_str_list, kb_str_dict, kb_tuple_int, kb_tuple_bool, kb_tuple_str, kb_tuple_tuple, kb_tuple_list, kb_tuple_dict, kb_list_int, kb_list_bool, kb_list_str, kb_list_tuple, kb_list_list, kb_list_dict, kb_dict_int, kb_dict_bool, kb_dict_str, kb_dict_tuple, kb_dict_list, kb_dict_dict, seqS, ifS, retS, setS, dropS, skipS, asT, notT, andT, orT, ofT, andV, orV, notV, ifM, do2, opd, opd1, chain3, bltM, opl, consM, tupM, mkT, lstM, mkL, objMs, newL, alloc, fnM, methM, needT, oplm, sliceM, lcMM, oneM, valI, asgS, setIxS, forS, Bool.not_true, Bool.not_false, Bool.false_eq_true, if_false, if_true, reduceIte, List.set_cons_zero, List.set_cons_succ, decide_true, decide_false, Bool.true_and, Bool.false_and, Bool.and_true, Bool.and_false, Bool.true_or, Bool.false_or, Bool.or_true, Bool.or_false, sz_lit, disp1, keyOf_s, keyOf_i, pow59, pow15, pow39, pow38, pow590, decide_eq_true_eq, aT, or_true, beq_self_eq_true, true_or, Int.reduceNeg, Int.reducePow, Int.reduceLT, Int.reduceLE, Int.reduceToNat, Nat.reduceAdd, Nat.reduceLeDiff, Nat.reducePow, and_self, and_true, true_and, false_and, and_false, or_false, false_or, List.length_cons, List.length_nil, List.length_map, hc, hP, z1]
      simp only [wl, wellOf, hc, if_false]
      try rfl
  · rw [if_neg hk]; exact Le.bad

def drD (S : List MO) (n : Nat) (f : Dr D) : Res D := match S[n]? with
  | some (.ml [.int a, .int b, .int c]) => .ok (f (a, b, c)).1 (put S n (f (a, b, c)).2)
  | _ => .bad
def F__law_dip (ds : List D) : M D := fun S => match asOb (ds.getD 0 .non) with
  | none => .bad
  | some n => match asInt (ds.getD 1 .non) with
    | none => .bad
    | some k => if 0 < k ∧ k < 1073741824 then emb n (fun w => (.int (dip k w).1, (dip k w).2)) S else .bad
def den__law_dip : Rho → M Fl := (seqS (ifS (asT (do2 (do2 (fun ρ => lift (slot ρ 0)) (fun _ => pure (.int 0)) ixD) (fun _ => pure (.int 0)) gtD)) (seqS (setS 4 (do2 (bltM (consM (do2 (fun ρ => lift (slot ρ 0)) (fun _ => pure (.int 0)) ixD) (fun _ => pure [])) intD) (fun ρ => lift (slot ρ 1)) modD)) (seqS (setIxS (fun ρ => lift (slot ρ 0)) (fun _ => pure (.int 0)) (do2 (do2 (fun ρ => lift (slot ρ 0)) (fun _ => pure (.int 0)) ixD) (fun ρ => lift (slot ρ 1)) fdivD)) (retS (fun ρ => lift (slot ρ 4))))) skipS) (seqS (setIxS (fun ρ => lift (slot ρ 0)) (fun _ => pure (.int 2)) (do2 (do2 (fun ρ => lift (slot ρ 0)) (fun _ => pure (.int 2)) ixD) (fun _ => pure (.int 1)) addD)) (seqS (setS 2 (do2 (bltM (consM (do2 (do2 (fun ρ => lift (slot ρ 0)) (fun _ => pure (.int 1)) ixD) (do2 (fun _ => pure (.int 776531401)) (do2 (fun ρ => lift (slot ρ 0)) (fun _ => pure (.int 2)) ixD) mulD) addD) (fun _ => pure [])) intD) (fun _ => pure (.int 2305843009213693867)) modD)) (seqS (setS 3 (do2 (do2 (do2 (bltM (consM (do2 (fun ρ => lift (slot ρ 2)) (fun ρ => lift (slot ρ 2)) mulD) (fun _ => pure [])) intD) (fun _ => pure (.int 1000000000000037)) modD) (fun ρ => lift (slot ρ 2)) mulD) (do2 (fun _ => pure (.int 7351)) (do2 (fun ρ => lift (slot ρ 0)) (fun _ => pure (.int 2)) ixD) mulD) addD)) (retS (do2 (bltM (consM (do2 (do2 (bltM (consM (do2 (fun ρ => lift (slot ρ 3)) (do2 (fun ρ => lift (slot ρ 0)) (fun _ => pure (.int 1)) ixD) addD) (fun _ => pure [])) intD) (fun _ => pure (.int 4398046510993)) modD) (fun _ => pure (.int 32)) fdivD) (fun _ => pure [])) intD) (fun ρ => lift (slot ρ 1)) modD))))))
theorem tm__law_dip (T : Txt K mg a) (cdv : Value) (A : Around) (outer : List Env) (s : Shared) (H : Hp) (E : XK) (hr : Room 0 (A.deeper (envOfC "_law_dip" (defScope s__law_dip) s.heap.objs.size a.f__law_dip cdv))) :
    PDSs (cxOf (L2.CX P w) P w K mg base ["_law_well_here", "_law_size", "_law_one", "_law_two", "_law_found"] "_law_dip" (defScope s__law_dip) a.f__law_dip cdv A outer s H E) (fun c d _ H => E c d H) (defBody s__law_dip) den__law_dip := by
  have tk : Takes (cxOf (L2.CX P w) P w K mg base ["_law_well_here", "_law_size", "_law_one", "_law_two", "_law_found"] "_law_dip" (defScope s__law_dip) a.f__law_dip cdv A outer s H E) (fun c d _ H => E c d H) := takes_of rfl rfl rfl rfl
  exact (pdss_cons bl (pds_if (pdt_cmp o_gt (pd_ix (pd_var 0) pd_int) pd_int (nomark _)) (pdss_cons bl (pds_set 4 (pd_op o_mod (pd_bty c_int (by rfl) T.b_int bo_int (pda_cons (pd_ix (pd_var 0) pd_int) pda_nil)) (pd_var 1)) sc__law_dip.nd) (pdss_cons bl (pds_setIx (pd_op o_fdiv (pd_ix (pd_var 0) pd_int) (pd_var 1)) (pd_var 0) pd_int) (pdss_one (pds_ret (pd_var 4))))) pdss_nil) (pdss_cons bl (pds_setIx (pd_op o_add (pd_ix (pd_var 0) pd_int) pd_int) (pd_var 0) pd_int) (pdss_cons bl (pds_set 2 (pd_op o_mod (pd_bty c_int (by rfl) T.b_int bo_int (pda_cons (pd_op o_add (pd_ix (pd_var 0) pd_int) (pd_op o_mul pd_int (pd_ix (pd_var 0) pd_int))) pda_nil)) pd_int) sc__law_dip.nd) (pdss_cons bl (pds_set 3 (pd_op o_add (pd_op o_mul (pd_op o_mod (pd_bty c_int (by rfl) T.b_int bo_int (pda_cons (pd_op o_mul (pd_var 2) (pd_var 2)) pda_nil)) pd_int) (pd_var 2)) (pd_op o_mul pd_int (pd_ix (pd_var 0) pd_int))) sc__law_dip.nd) (pdss_one (pds_ret (pd_op o_mod (pd_bty c_int (by rfl) T.b_int bo_int (pda_cons (pd_op o_fdiv (pd_op o_mod (pd_bty c_int (by rfl) T.b_int bo_int (pda_cons (pd_op o_add (pd_var 3) (pd_ix (pd_var 0) pd_int)) pda_nil)) pd_int) pd_int) pda_nil)) (pd_var 1))))))))
theorem ok__law_dip (T : Txt K mg a) : FnOk P w K mg base (L2.CX P w) 1 a.f__law_dip a.d__law_dip ["_law_well_here", "_law_size"] (spM K 2 F__law_dip) :=
  def_ok T.F__law_dip sc__law_dip (fun cdv A outer s H E hr => tm__law_dip T cdv A outer s H E hr) fun ds S hl hc hf hs => by
  match ds, hl with
  | [d, e], _ =>
  show Le _ _ ((den__law_dip [some d, some e, none, none, none] >>= retF) S)
  unfold F__law_dip
  show Le _ (match asOb d with | none => .bad | some n => match asInt e with | none => .bad | some k => if 0 < k ∧ k < 1073741824 then emb n (fun w => (.int (dip k w).1, (dip k w).2)) S else .bad) _
  cases h1 : asOb d with
  | none => exact Le.bad
  | some n =>
  cases h2 : asInt e with
  | none => exact Le.bad
  | some k =>
  obtain rfl := asOb_some h1
  obtain rfl := asInt_some h2
  dsimp only
  by_cases hk : 0 < k ∧ k < 1073741824
  · rw [if_pos hk]
    refine emb_cases (p := fun r => Le S.length r _) Le.bad fun w hn hS => le_of ?_
    rw [hS, put_put]
    have hk1 := hk.1
    have b1 : ∀ X : Int, (-18446744073709551616 < X % 2305843009213693867) = True := fun X => eq_true (by omega)
    have b2 : ∀ X : Int, (X % 2305843009213693867 < 18446744073709551616) = True := fun X => eq_true (by omega)
    by_cases ha : w.1 > 0
    · simp only [den__law_dip, pure_app, bad_app, bind_app, then_ok, then_exc, then_bad, lift_app, toRes_some, toRes_none, ite_app, slot_zero, slot_succ, thenF_nx, thenF_rt, thenF_bk, thenF_ct, isB_bl, retF_rt, retF_nx, itemsOf_tup, itemsOf_lst, itemsOf_fl, itemsOf_str, tyName_non, tyName_bl, tyName_int, tyName_str, tyName_tup, tyName_lst, tyName_fl, tyName_dk, tyName_dt, seqOf_tup, lenOf_tup, seqOf_lst, lenOf_lst, seqOf_fl, lenOf_fl, listOf_lst, listOf_fl, lstOf_lst, lenOf_str, lenD_1, allD_1, anyD_1, isi_eq, ltD_ii, ltD_ss, leD_ii, leD_ss, gtD_ii, gtD_ss, geD_ii, geD_ss, onI_ii, addD_ii, addD_ss, addD_tt, addD_ll, mulD_ii, mulD_si, mulD_li, ixD_si, ixD_tup, ixD_lst, ixD_fl, ixD_ob, intD_i, intD_b, absD_i, max2D_ii, min2D_ii, slD_s, slD_t, slD_l, intOf_i, joinD_1, upperD_0, reprBD_b, inD_eq, ninD_eq, eqD_eq, neD_eq, inB_sign, eqB_ss, eqB_ii, isD_n, isntD_n, tupleD_t, tupleD_l, listD_1, tyD_str, rng1_i, rng2_i, forM_nil, gSet_eq, bName_eq, wipeR_nil, wipeR_cons, obind_some, obind_none, omap_some, omap_none, kb_NoneType_int, kb_NoneType_bool, kb_NoneType_str, kb_NoneType_tuple, kb_NoneType_list, kb_NoneType_dict, kb_bool_int, kb_bool_bool, kb_bool_str, kb_bool_tuple, kb_bool_list, kb_bool_dict, kb_int_int, kb_int_bool, kb_int_str, kb_int_tuple, kb_int_list, kb_int_dict, kb_str_int, kb_str_bool, kb_str_str, kb_str_tuple, kb_str_list, kb_str_dict, kb_tuple_int, kb_tuple_bool, kb_tuple_str, kb_tuple_tuple, kb_tuple_list, kb_tuple_dict, kb_list_int, kb_list_bool, kb_list_str, kb_list_tuple, kb_list_list, kb_list_dict, kb_dict_int, kb_dict_bool, kb_dict_str, kb_dict_tuple, kb_dict_list, kb_dict_dict, seqS, ifS, retS, setS, dropS, skipS, asT, notT, andT, orT, ofT, andV, orV, notV, ifM, do2, opd, opd1, chain3, bltM, opl, consM, tupM, mkT, lstM, mkL, objMs, newL, alloc, fnM, methM, needT, oplm, sliceM, lcMM, oneM, valI, asgS, setIxS, forS, Bool.not_true, Bool.not_false, Bool.false_eq_true, if_false, if_true, reduceIte, List.set_cons_zero, List.set_cons_succ, decide_true, decide_false, Bool.true_and, Bool.false_and, Bool.and_true, Bool.and_false, Bool.true_or, Bool.false_or, Bool.or_true, Bool.or_false, sz_lit, disp1, keyOf_s, keyOf_i, pow59, pow15, pow39, pow38, pow590, decide_eq_true_eq, aT, or_true, beq_self_eq_true, true_or, Int.reduceNeg, Int.reducePow, Int.reduceLT, Int.reduceLE, Int.reduceToNat, Nat.reduceAdd, Nat.reduceLeDiff, Nat.reducePow, and_self, and_true, true_and, false_and, and_false, or_false, false_or, List.length_cons, List.length_nil, ixw0 hn, ixw1 hn, ixw2 hn, stw0 hn, stw2 hn, hk, hk1, ha, decide_eq_true_eq]
      simp only [dip, ha, if_true]
    · simp only [den__law_dip, pure_app, bad_app, bind_app, then_ok, then_exc, then_bad, lift_app, toRes_some, toRes_none, ite_app, slot_zero, slot_succ, thenF_nx, thenF_rt, thenF_bk, thenF_ct, isB_bl, retF_rt, retF_nx, itemsOf_tup, itemsOf_lst, itemsOf_fl, itemsOf_str, tyName_non, tyName_bl, tyName_int, tyName_str, tyName_tup, tyName_lst, tyName_fl, tyName_dk, tyName_dt, seqOf_tup, lenOf_tup, seqOf_lst, lenOf_lst, seqOf_fl, lenOf_fl, listOf_lst, listOf_fl, lstOf_lst, lenOf_str, lenD_1, allD_1, anyD_1, isi_eq, ltD_ii, ltD_ss, leD_ii, leD_ss, gtD_ii, gtD_ss, geD_ii, geD_ss, onI_ii, addD_ii, addD_ss, addD_tt, addD_ll, mulD_ii, mulD_si, mulD_li, ixD_si, ixD_tup, ixD_lst, ixD_fl, ixD_ob, intD_i, intD_b, absD_i, max2D_ii, min2D_ii, slD_s, slD_t, slD_l, intOf_i, joinD_1, upperD_0, reprBD_b, inD_eq, ninD_eq, eqD_eq, neD_eq, inB_sign, eqB_ss, eqB_ii, isD_n, isntD_n, tupleD_t, tupleD_l, listD_1, tyD_str, rng1_i, rng2_i, forM_nil, gSet_eq, bName_eq, wipeR_nil, wipeR_cons, obind_some, obind_none, omap_some, omap_none, kb_NoneType_int, kb_NoneType_bool, kb_NoneType_str, kb_NoneType_tuple, kb_NoneType_list, kb_NoneType_dict, kb_bool_int, kb_bool_bool, kb_bool_str, kb_bool_tuple, kb_bool_list, kb_bool_dict, kb_int_int, kb_int_bool, kb_int_str, kb_int_tuple, kb_int_list, kb_int_dict, kb_str_int, kb_str_bool, kb_str_str, kb_str_tuple, kb_str_list, kb_str_dict, kb_tuple_int, kb_tuple_bool, kb_tuple_str, kb_tuple_tuple, kb_tuple_list, kb_tuple_dict, kb_list_int, kb_list_bool, kb_list_str, kb_list_tuple, kb_list_list, kb_list_dict, kb_dict_int, kb_dict_bool, kb_dict_str, kb_dict_tuple, kb_dict_list, kb_dict_dict, seqS, ifS, retS, setS, dropS, skipS, asT, notT, andT, orT, ofT, andV, orV, notV, ifM, do2, opd, opd1, chain3, bltM, opl, consM, tupM, mkT, lstM, mkL, objMs, newL, alloc, fnM, methM, needT, oplm, sliceM, lcMM, oneM, valI, asgS, setIxS, forS, Bool.not_true, Bool.not_false, Bool.false_eq_true, if_false, if_true, reduceIte, List.set_cons_zero, List.set_cons_succ, decide_true, decide_false, Bool.true_and, Bool.false_and, Bool.and_true, Bool.and_false, Bool.true_or, Bool.false_or, Bool.or_true, Bool.or_false, sz_lit, disp1, keyOf_s, keyOf_i, pow59, pow15, pow39, pow38, pow590, decide_eq_true_eq, aT, or_true, beq_self_eq_true, true_or, Int.reduceNeg, Int.reducePow, Int.reduceLT, Int.reduceLE, Int.reduceToNat, Nat.reduceAdd, Nat.reduceLeDiff, Nat.reducePow, and_self, and_true, true_and, false_and, and_false, or_false, false_or, List.length_cons, List.length_nil, ixw0 hn, ixw1 hn, ixw2 hn, stw0 hn, stw2 hn, hk, hk1, ha, b1, b2]
      simp only [dip, ha, if_false]
  · rw [if_neg hk]; exact Le.bad

def itemsL : D → Option (List D)
  | .tup xs => some xs
  | .lst xs => some xs
  | .str z => some (strD z)
  | _ => none
def F__law_choose (ds : List D) : M D := fun S => match asOb (ds.getD 0 .non) with
  | none => .bad
  | some n => match itemsL (ds.getD 1 .non) with
    | none => .bad
    | some xs => if 0 < xs.length ∧ xs.length < 1073741824 then emb n (choose xs) S else .bad
theorem F_dip_put {S : List MO} {n : Nat} {k : Int} {w : W3} (h : n < S.length) (h1 : 0 < k) (h2 : k < 1073741824) : F__law_dip [.ob n, .int k] (put S n w) = .ok (.int (dip k w).1) (put S n (dip k w).2) := by
  show (if 0 < k ∧ k < 1073741824 then emb n (fun w => (.int (dip k w).1, (dip k w).2)) (put S n w) else .bad) = _
  rw [if_pos ⟨h1, h2⟩, emb_put h]
theorem atI_natD (xs : List D) (i : Nat) (h : i < xs.length) : atI xs (i : Int) = some (xs.getD i default) := by
  unfold atI ixN
  rw [if_pos (by omega), if_pos (by omega)]
  show xs[i]? = _
  rw [List.getD_eq_getElem?_getD, List.getElem?_eq_getElem h]
  rfl
def den__law_choose : Rho → M Fl := (retS (do2 (fun ρ => lift (slot ρ 1)) (fnM 2 F__law_dip (consM (fun ρ => lift (slot ρ 0)) (consM (bltM (consM (fun ρ => lift (slot ρ 1)) (fun _ => pure [])) lenD) (fun _ => pure [])))) ixD))
theorem tm__law_choose (T : Txt K mg a) (cdv : Value) (A : Around) (outer : List Env) (s : Shared) (H : Hp) (E : XK) (hr : Room 1 (A.deeper (envOfC "_law_choose" (defScope s__law_choose) s.heap.objs.size a.f__law_choose cdv))) :
    PDSs (cxOf (L2.CX P w) P w K mg base ["_law_well_here", "_law_items"] "_law_choose" (defScope s__law_choose) a.f__law_choose cdv A outer s H E) (fun c d _ H => E c d H) (defBody s__law_choose) den__law_choose := by
  have tk : Takes (cxOf (L2.CX P w) P w K mg base ["_law_well_here", "_law_items"] "_law_choose" (defScope s__law_choose) a.f__law_choose cdv A outer s H E) (fun c d _ H => E c d H) := takes_of rfl rfl rfl rfl
  exact (pdss_one (pds_ret (pd_ix (pd_var 1) (pd_call (ok__law_dip T) (hr.mono (by decide)) tk (by rfl) T.g__law_dip T.F__law_dip.kp T.B__law_dip (pda_cons (pd_var 0) (pda_cons (pd_blt c_len (by rfl) T.b_len bo_len (pda_cons (pd_var 1) pda_nil)) pda_nil))))))
theorem ok__law_choose (T : Txt K mg a) : FnOk P w K mg base (L2.CX P w) 2 a.f__law_choose a.d__law_choose ["_law_well_here", "_law_items"] (spM K 2 F__law_choose) :=
  def_ok T.F__law_choose sc__law_choose (fun cdv A outer s H E hr => tm__law_choose T cdv A outer s H E hr) fun ds S hl hc hf hs => by
  match ds, hl with
  | [d, e], _ =>
  show Le _ _ ((den__law_choose [some d, some e] >>= retF) S)
  unfold F__law_choose
  show Le _ (match asOb d with | none => .bad | some n => match itemsL e with | none => .bad | some xs => if 0 < xs.length ∧ xs.length < 1073741824 then emb n (choose xs) S else .bad) _
  cases h1 : asOb d with
  | none => exact Le.bad
  | some n =>
  cases h2 : itemsL e with
  | none => exact Le.bad
  | some xs =>
  obtain rfl := asOb_some h1
  dsimp only
  by_cases hk : 0 < xs.length ∧ xs.length < 1073741824
  · rw [if_pos hk]
    refine emb_cases (p := fun r => Le S.length r _) Le.bad fun w hn hS => le_of ?_
    rw [hS, put_put]
    obtain ⟨i, hi, ei⟩ := dip_nat hk.1 w
    have hd := F_dip_put (k := (xs.length : Int)) (w := w) hn (by omega) (by omega)
    have hx := atI_natD xs i hi
    have ec : (choose xs w).1 = xs.getD i default := by unfold choose; simp only [ei]; rfl
    have ew : (choose xs w).2 = (dip (xs.length : Int) w).2 := rfl
    rw [ec, ew]
    cases e with
    | tup ys =>
      cases h2
      simp only [den__law_choose, pure_app, bad_app, bind_app, then_ok, then_exc, then_bad, lift_app, toRes_some, toRes_none, ite_app, slot_zero, slot_succ, thenF_nx, thenF_rt, thenF_bk, thenF_ct, isB_bl, retF_rt, retF_nx, itemsOf_tup, itemsOf_lst, itemsOf_fl, itemsOf_str, tyName_non, tyName_bl, tyName_int, tyName_str, tyName_tup, tyName_lst, tyName_fl, tyName_dk, tyName_dt, seqOf_tup, lenOf_tup, seqOf_lst, lenOf_lst, seqOf_fl, lenOf_fl, listOf_lst, listOf_fl, lstOf_lst, lenOf_str, lenD_1, allD_1, anyD_1, isi_eq, ltD_ii, ltD_ss, leD_ii, leD_ss, gtD_ii, gtD_ss, geD_ii, geD_ss, onI_ii, addD_ii, addD_ss, addD_tt, addD_ll, mulD_ii, mulD_si, mulD_li, ixD_si, ixD_tup, ixD_lst, ixD_fl, ixD_ob, intD_i, intD_b, absD_i, max2D_ii, min2D_ii, slD_s, slD_t, slD_l, intOf_i, joinD_1, upperD_0, reprBD_b, inD_eq, ninD_eq, eqD_eq, neD_eq, inB_sign, eqB_ss, eqB_ii, isD_n, isntD_n, tupleD_t, tupleD_l, listD_1, tyD_str, rng1_i, rng2_i, forM_nil, gSet_eq, bName_eq, wipeR_nil, wipeR_cons, obind_some, obind_none, omap_some, omap_none, kb_NoneType_int, kb_NoneType_bool, kb_NoneType_str, kb_NoneType_tuple, kb_NoneType_list, kb_NoneType_dict, kb_bool_int, kb_bool_bool, kb_bool_str, kb_bool_tuple, kb_bool_list, kb_bool_dict, kb_int_int, kb_int_bool, kb_int_str, kb_int_tuple, kb_int_list, kb_int_dict, kb_str_int, kb_str_bool, kb_str_str, kb_str_tuple, kb_str_list, kb_str_dict, kb_tuple_int, kb_tuple_bool, kb_tuple_str, kb_tuple_tuple, kb_tuple_list, kb_tuple_dict, kb_list_int, kb_list_bool, kb_list_str, kb_list_tuple, kb_list_list, kb_list_dict, kb_dict_int, kb_dict_bool, kb_dict_str, kb_dict_tuple, kb_dict_list, kb_dict_dict, seqS, ifS, retS, setS, dropS, skipS, asT, notT, andT, orT, ofT, andV, orV, notV, ifM, do2, opd, opd1, chain3, bltM, opl, consM, tupM, mkT, lstM, mkL, objMs, newL, alloc, fnM, methM, needT, oplm, sliceM, lcMM, oneM, valI, asgS, setIxS, forS, Bool.not_true, Bool.not_false, Bool.false_eq_true, if_false, if_true, reduceIte, List.set_cons_zero, List.set_cons_succ, decide_true, decide_false, Bool.true_and, Bool.false_and, Bool.and_true, Bool.and_false, Bool.true_or, Bool.false_or, Bool.or_true, Bool.or_false, sz_lit, disp1, keyOf_s, keyOf_i, pow59, pow15, pow39, pow38, pow590, decide_eq_true_eq, aT, or_true, beq_self_eq_true, true_or, Int.reduceNeg, Int.reducePow, Int.reduceLT, Int.reduceLE, Int.reduceToNat, Nat.reduceAdd, Nat.reduceLeDiff, Nat.reducePow, and_self, and_true, true_and, false_and, and_false, or_false, false_or, List.length_cons, List.length_nil, hd, ei, hx]
    | lst ys =>
      cases h2
      simp only [den__law_choose, pure_app, bad_app, bind_app, then_ok, then_exc, then_bad, lift_app, toRes_some, toRes_none, ite_app, slot_zero, slot_succ, thenF_nx, thenF_rt, thenF_bk, thenF_ct, isB_bl, retF_rt, retF_nx, itemsOf_tup, itemsOf_lst, itemsOf_fl, itemsOf_str, tyName_non, tyName_bl, tyName_int, tyName_str, tyName_tup, tyName_lst, tyName_fl, tyName_dk, tyName_dt, seqOf_tup, lenOf_tup, seqOf_lst, lenOf_lst, seqOf_fl, lenOf_fl, listOf_lst, listOf_fl, lstOf_lst, lenOf_str, lenD_1, allD_1, anyD_1, isi_eq, ltD_ii, ltD_ss, leD_ii, leD_ss, gtD_ii, gtD_ss, geD_ii, geD_ss, onI_ii, addD_ii, addD_ss, addD_tt, addD_ll, mulD_ii, mulD_si, mulD_li, ixD_si, ixD_tup, ixD_lst, ixD_fl, ixD_ob, intD_i, intD_b, absD_i, max2D_ii, min2D_ii, slD_s, slD_t, slD_l, intOf_i, joinD_1, upperD_0, reprBD_b, inD_eq, ninD_eq, eqD_eq, neD_eq, inB_sign, eqB_ss, eqB_ii, isD_n, isntD_n, tupleD_t, tupleD_l, listD_1, tyD_str, rng1_i, rng2_i, forM_nil, gSet_eq, bName_eq, wipeR_nil, wipeR_cons, obind_some, obind_none, omap_some, omap_none, kb_NoneType_int, kb_NoneType_bool, kb_NoneType_str, kb_NoneType_tuple, kb_NoneType_list, kb_NoneType_dict, kb_bool_int, kb_bool_bool, kb_bool_str, kb_bool_tuple, kb_bool_list, kb_bool_dict, kb_int_int, kb_int_bool, kb_int_str, kb_int_tuple, kb_int_list, kb_int_dict, kb_str_int, kb_str_bool, kb_str_str, kb_str_tuple, kb_str_list, kb_str_dict, kb_tuple_int, kb_tuple_bool, kb_tuple_str, kb_tuple_tuple, kb_tuple_list, kb_tuple_dict, kb_list_int, kb_list_bool, kb_list_str, kb_list_tuple, kb_list_list, kb_list_dict, kb_dict_int, kb_dict_bool, kb_dict_str, kb_dict_tuple, kb_dict_list, kb_dict_dict, seqS, ifS, retS, setS, dropS, skipS, asT, notT, andT, orT, ofT, andV, orV, notV, ifM, do2, opd, opd1, chain3, bltM, opl, consM, tupM, mkT, lstM, mkL, objMs, newL, alloc, fnM, methM, needT, oplm, sliceM, lcMM, oneM, valI, asgS, setIxS, forS, Bool.not_true, Bool.not_false, Bool.false_eq_true, if_false, if_true, reduceIte, List.set_cons_zero, List.set_cons_succ, decide_true, decide_false, Bool.true_and, Bool.false_and, Bool.and_true, Bool.and_false, Bool.true_or, Bool.false_or, Bool.or_true, Bool.or_false, sz_lit, disp1, keyOf_s, keyOf_i, pow59, pow15, pow39, pow38, pow590, decide_eq_true_eq, aT, or_true, beq_self_eq_true, true_or, Int.reduceNeg, Int.reducePow, Int.reduceLT, Int.reduceLE, Int.reduceToNat, Nat.reduceAdd, Nat.reduceLeDiff, Nat.reducePow, and_self, and_true, true_and, false_and, and_false, or_false, false_or, List.length_cons, List.length_nil, hd, ei, hx]
    | str z =>
      cases h2
      have hz := strD_len z
      rw [hz] at hd ei hi
      have hx2 := atI_str z i hi
      rw [hz]
      simp only [den__law_choose, pure_app, bad_app, bind_app, then_ok, then_exc, then_bad, lift_app, toRes_some, toRes_none, ite_app, slot_zero, slot_succ, thenF_nx, thenF_rt, thenF_bk, thenF_ct, isB_bl, retF_rt, retF_nx, itemsOf_tup, itemsOf_lst, itemsOf_fl, itemsOf_str, tyName_non, tyName_bl, tyName_int, tyName_str, tyName_tup, tyName_lst, tyName_fl, tyName_dk, tyName_dt, seqOf_tup, lenOf_tup, seqOf_lst, lenOf_lst, seqOf_fl, lenOf_fl, listOf_lst, listOf_fl, lstOf_lst, lenOf_str, lenD_1, allD_1, anyD_1, isi_eq, ltD_ii, ltD_ss, leD_ii, leD_ss, gtD_ii, gtD_ss, geD_ii, geD_ss, onI_ii, addD_ii, addD_ss, addD_tt, addD_ll, mulD_ii, mulD_si, mulD_li, ixD_si, ixD_tup, ixD_lst, ixD_fl, ixD_ob, intD_i, intD_b, absD_i, max2D_ii, min2D_ii, slD_s, slD_t, slD_l, intOf_i, joinD_1, upperD_0, reprBD_b, inD_eq, ninD_eq, eqD_eq, neD_eq, inB_sign, eqB_ss, eqB_ii, isD_n, isntD_n, tupleD_t, tupleD_l, listD_1, tyD_str, rng1_i, rng2_i, forM_nil, gSet_eq, bName_eq, wipeR_nil, wipeR_cons, obind_some, obind_none, omap_some, omap_none, kb_NoneType_int, kb_NoneType_bool, kb_NoneType_str, kb_NoneType_tuple, kb_NoneType_list, kb_NoneType_dict, kb_bool_int, kb_bool_bool, kb_bool_str, kb_bool_tuple, kb_bool_list, kb_bool_dict, kb_int_int, kb_int_bool, kb_int_str, kb_int_tuple, kb_int_list, kb_int_dict, kb_str_int, kb_str_bool, kb_str_str, kb_str_tuple, kb_str_list, kb_str_dict, kb_tuple_int, kb_tuple_bool, kb_tuple_str, kb_tuple_tuple, kb_tuple_list, kb_tuple_dict, kb_list_int, kb_list_bool, kb_list_str, kb_list_tuple, kb_list_list, kb_list_dict, kb_dict_int, kb_dict_bool, kb_dict_str, kb_dict_tuple, kb_dict_list, kb_dict_dict, seqS, ifS, retS, setS, dropS, skipS, asT, notT, andT, orT, ofT, andV, orV, notV, ifM, do2, opd, opd1, chain3, bltM, opl, consM, tupM, mkT, lstM, mkL, objMs, newL, alloc, fnM, methM, needT, oplm, sliceM, lcMM, oneM, valI, asgS, setIxS, forS, Bool.not_true, Bool.not_false, Bool.false_eq_true, if_false, if_true, reduceIte, List.set_cons_zero, List.set_cons_succ, decide_true, decide_false, Bool.true_and, Bool.false_and, Bool.and_true, Bool.and_false, Bool.true_or, Bool.false_or, Bool.or_true, Bool.or_false, sz_lit, disp1, keyOf_s, keyOf_i, pow59, pow15, pow39, pow38, pow590, decide_eq_true_eq, aT, or_true, beq_self_eq_true, true_or, Int.reduceNeg, Int.reducePow, Int.reduceLT, Int.reduceLE, Int.reduceToNat, Nat.reduceAdd, Nat.reduceLeDiff, Nat.reducePow, and_self, and_true, true_and, false_and, and_false, or_false, false_or, List.length_cons, List.length_nil, hd, ei, hx2]
    | _ => cases h2
  · rw [if_neg hk]; exact Le.bad

def badSign (c : Nat) : Bool := !(if (!decide ([c] < ("a" : Str).cps.toList)) = true then !decide (("z" : Str).cps.toList < [c]) else false)
def isWord (x : Str) : Bool := !decide (x = "") && (!decide (8 < (x.length : Int)) && (x.cps.toList.filter badSign).isEmpty)
theorem filterMap_if {α β : Type} (p : α → Bool) (f : α → β) : ∀ xs : List α, (xs.filterMap fun a => if p a = true then some (f a) else none) = (xs.filter p).map f
  | [] => rfl
  | a :: xs => by
    rw [List.filterMap_cons, List.filter_cons, filterMap_if p f xs]
    by_cases h : p a = true
    · rw [if_pos h, if_pos h]; rfl
    · rw [if_neg h, if_neg h]
def F__law_is_word : List D → M D := onStr isWord
def den__law_is_word : Rho → M Fl := (seqS (ifS (orT (notT (asT (bltM (consM (fun ρ => lift (slot ρ 0)) (consM (fun _ => pure (.ty "str")) (fun _ => pure []))) isiD))) (orT (asT (do2 (fun ρ => lift (slot ρ 0)) (fun _ => pure (.str "")) eqD)) (asT (do2 (bltM (consM (fun ρ => lift (slot ρ 0)) (fun _ => pure [])) lenD) (fun _ => pure (.int 8)) gtD)))) (retS (fun _ => pure (.bl false))) skipS) (retS (do2 (lcMM [1] (valI (fun ρ => lift (slot ρ 0))) (bName 1) (notT (asT (chain3 (fun _ => pure (.str "a")) (fun ρ => lift (slot ρ 1)) (fun _ => pure (.str "z")) leD leD))) (fun ρ => lift (slot ρ 1))) (lstM (fun _ => pure [])) eqD)))
theorem tm__law_is_word (T : Txt K mg a) (cdv : Value) (A : Around) (outer : List Env) (s : Shared) (H : Hp) (E : XK) (hr : Room 0 (A.deeper (envOfC "_law_is_word" (defScope s__law_is_word) s.heap.objs.size a.f__law_is_word cdv))) :
    PDSs (cxOf (L2.CX P w) P w K mg base ["_law_value", "_law_sign"] "_law_is_word" (defScope s__law_is_word) a.f__law_is_word cdv A outer s H E) (fun c d _ H => E c d H) (defBody s__law_is_word) den__law_is_word := by
  have tk : Takes (cxOf (L2.CX P w) P w K mg base ["_law_value", "_law_sign"] "_law_is_word" (defScope s__law_is_word) a.f__law_is_word cdv A outer s H E) (fun c d _ H => E c d H) := takes_of rfl rfl rfl rfl
  exact (pdss_cons bl (pds_if (PDW.pt (pdw_or (pdt_not (pdt_val (pd_blt c_isi (by rfl) T.b_isinstance bo_isinstance (pda_cons (pd_var 0) (pda_cons (pd_ty (by rfl) T.b_str bo_str) pda_nil))))) (pdw_or (pdt_cmp (o_eq hr) (pd_var 0) (pd_str (by decide)) (nomark _)) (pdw_or1 (pdt_cmp o_gt (pd_blt c_len (by rfl) T.b_len bo_len (pda_cons (pd_var 0) pda_nil)) pd_int (nomark _)))))) (pdss_one (pds_ret pd_bl)) pdss_nil) (pdss_one (pds_ret (pd_cmp (o_eq hr) (pd_lc [("_law_sign", 1)] rfl sc__law_is_word.nd (pdi_val (pd_var 0)) (blkOk_by (N := ["_law_value", "_law_sign"]) (sc := defScope s__law_is_word) (by decide +kernel)) (fun _ _ _ _ _ => (pg_name (i := 1) sc__law_is_word.nd rfl (Or.inl rfl))) ot_name (fun _ _ _ _ _ => (pdts_one (pdt_not (pdt_chain o_le o_le (pd_str (by decide)) (pd_var 1) (pd_str (by decide)))))) (fun _ _ _ _ _ => (pd_var 1))) (pd_lst pda_nil) (nomark _)))))
theorem ok__law_is_word (T : Txt K mg a) : FnOk P w K mg base (L2.CX P w) 1 a.f__law_is_word a.d__law_is_word ["_law_value"] (spM K 1 F__law_is_word) :=
  def_ok T.F__law_is_word sc__law_is_word (fun cdv A outer s H E hr => tm__law_is_word T cdv A outer s H E hr) fun ds S hl hc hf hs => by
  match ds, hl with
  | [d], _ =>
  show Le _ _ ((den__law_is_word [some d, none] >>= retF) S)
  cases d with
  | str x =>
    have hx : x.length ≤ sizeLine := by simpa [D.fitAll, D.fit] using hf
    refine le_of ?_
    have hcomp : compM (oneM (bName 1) (notT (asT (chain3 (fun _ => pure (D.str "a")) (fun ρ => lift (slot ρ 1)) (fun _ => pure (D.str "z")) leD leD))) (fun ρ => lift (slot ρ 1)) [some (D.str x), none]) (strD x) S
        = .ok ((x.cps.toList.filter badSign).map fun c => D.str ⟨#[c]⟩) S := by
      rw [← filterMap_if]
      refine compM_enc (fun c => .str ⟨#[c]⟩) _ _ fun c _ => ?_
      by_cases h1 : [c] < ("a" : Str).cps.toList <;> by_cases h2 : ("z" : Str).cps.toList < [c] <;>
        simp only [badSign, pure_app, bad_app, bind_app, then_ok, then_exc, then_bad, lift_app, toRes_some, toRes_none, ite_app, slot_zero, slot_succ, thenF_nx, thenF_rt, thenF_bk, thenF_ct, isB_bl, retF_rt, retF_nx, itemsOf_tup, itemsOf_lst, itemsOf_fl, itemsOf_str, tyName_non, tyName_bl, tyName_int, tyName_str, tyName_tup, tyName_lst, tyName_fl, tyName_dk, tyName_dt, seqOf_tup, lenOf_tup, seqOf_lst, lenOf_lst, seqOf_fl, lenOf_fl, listOf_lst, listOf_fl, lstOf_lst, lenOf_str, lenD_1, allD_1, anyD_1, isi_eq, ltD_ii, ltD_ss, leD_ii, leD_ss, gtD_ii, gtD_ss, geD_ii, geD_ss, onI_ii, addD_ii, addD_ss, addD_tt, addD_ll, mulD_ii, mulD_si, mulD_li, ixD_si, ixD_tup, ixD_lst, ixD_fl, ixD_ob, intD_i, intD_b, absD_i, max2D_ii, min2D_ii, slD_s, slD_t, slD_l, intOf_i, joinD_1, upperD_0, reprBD_b, inD_eq, ninD_eq, eqD_eq, neD_eq, inB_sign, eqB_ss, eqB_ii, isD_n, isntD_n, tupleD_t, tupleD_l, listD_1, tyD_str, rng1_i, rng2_i, forM_nil, gSet_eq, bName_eq, wipeR_nil, wipeR_cons, obind_some, obind_none, omap_some, omap_none, kb_NoneType_int, kb_NoneType_bool, kb_NoneType_str, kb_NoneType_tuple, kb_NoneType_list, kb_NoneType_dict, kb_bool_int, kb_bool_bool, kb_bool_str, kb_bool_tuple, kb_bool_list, kb_bool_dict, kb_int_int, kb_int_bool, kb_int_str, kb_int_tuple, kb_int_list, kb_int_dict, kb_str_int, kb_str_bool, kb_str_str, kb_str_tuple, kb_str_list, kb_str_dict, kb_tuple_int, kb_tuple_bool, kb_tuple_str, kb_tuple_tuple, kb_tuple_list, kb_tuple_dict, kb_list_int, kb_list_bool, kb_list_str, kb_list_tuple, kb_list_list, kb_list_dict, kb_dict_int, kb_dict_bool, kb_dict_str, kb_dict_tuple, kb_dict_list, kb_dict_dict, seqS, ifS, retS, setS, dropS, skipS, asT, notT, andT, orT, ofT, andV, orV, notV, ifM, do2, opd, opd1, chain3, bltM, opl, consM, tupM, mkT, lstM, mkL, objMs, newL, alloc, fnM, methM, needT, oplm, sliceM, lcMM, oneM, valI, asgS, setIxS, forS, Bool.not_true, Bool.not_false, Bool.false_eq_true, if_false, if_true, reduceIte, List.set_cons_zero, List.set_cons_succ, decide_true, decide_false, Bool.true_and, Bool.false_and, Bool.and_true, Bool.and_false, Bool.true_or, Bool.false_or, Bool.or_true, Bool.or_false, sz_lit, disp1, keyOf_s, keyOf_i, pow59, pow15, pow39, pow38, pow590, decide_eq_true_eq, aT, or_true, beq_self_eq_true, true_or, Int.reduceNeg, Int.reducePow, Int.reduceLT, Int.reduceLE, Int.reduceToNat, Nat.reduceAdd, Nat.reduceLeDiff, Nat.reducePow, and_self, and_true, true_and, false_and, and_false, or_false, false_or, List.length_cons, List.length_nil, h1, h2]
    have hl : ((x.cps.toList.filter badSign).map fun c => D.str ⟨#[c]⟩).length ≤ sizeLine := by
      rw [List.length_map]; exact Nat.le_trans (List.length_filter_le _ _) (by rw [Array.length_toList]; exact hx)
    have hz : (0 : Nat) ≤ sizeLine := Nat.zero_le _
    by_cases h1 : x = ""
    · subst h1
      simp only [den__law_is_word, F__law_is_word, onStr_1, onStr1_s, pure_app, bad_app, bind_app, then_ok, then_exc, then_bad, lift_app, toRes_some, toRes_none, ite_app, slot_zero, slot_succ, thenF_nx, thenF_rt, thenF_bk, thenF_ct, isB_bl, retF_rt, retF_nx, itemsOf_tup, itemsOf_lst, itemsOf_fl, itemsOf_str, tyName_non, tyName_bl, tyName_int, tyName_str, tyName_tup, tyName_lst, tyName_fl, tyName_dk, tyName_dt, seqOf_tup, lenOf_tup, seqOf_lst, lenOf_lst, seqOf_fl, lenOf_fl, listOf_lst, listOf_fl, lstOf_lst, lenOf_str, lenD_1, allD_1, anyD_1, isi_eq, ltD_ii, ltD_ss, leD_ii, leD_ss, gtD_ii, gtD_ss, geD_ii, geD_ss, onI_ii, addD_ii, addD_ss, addD_tt, addD_ll, mulD_ii, mulD_si, mulD_li, ixD_si, ixD_tup, ixD_lst, ixD_fl, ixD_ob, intD_i, intD_b, absD_i, max2D_ii, min2D_ii, slD_s, slD_t, slD_l, intOf_i, joinD_1, upperD_0, reprBD_b, inD_eq, ninD_eq, eqD_eq, neD_eq, inB_sign, eqB_ss, eqB_ii, isD_n, isntD_n, tupleD_t, tupleD_l, listD_1, tyD_str, rng1_i, rng2_i, forM_nil, gSet_eq, bName_eq, wipeR_nil, wipeR_cons, obind_some, obind_none, omap_some, omap_none, kb_NoneType_int, kb_NoneType_bool, kb_NoneType_str, kb_NoneType_tuple, kb_NoneType_list, kb_NoneType_dict, kb_bool_int, kb_bool_bool, kb_bool_str, kb_bool_tuple, kb_bool_list, kb_bool_dict, kb_int_int, kb_int_bool, kb_int_str, kb_int_tuple, kb_int_list, kb_int_dict, kb_str_int, kb_str_bool, kb_str_str, kb_str_tuple, kb_str_list, kb_str_dict, kb_tuple_int, kb_tuple_bool, kb_tuple_str, kb_tuple_tuple, kb_tuple_list, kb_tuple_dict, kb_list_int, kb_list_bool, kb_list_str, kb_list_tuple, kb_list_list, kb_list_dict, kb_dict_int, kb_dict_bool, kb_dict_str, kb_dict_tuple, kb_dict_list, kb_dict_dict, seqS, ifS, retS, setS, dropS, skipS, asT, notT, andT, orT, ofT, andV, orV, notV, ifM, do2, opd, opd1, chain3, bltM, opl, consM, tupM, mkT, lstM, mkL, objMs, newL, alloc, fnM, methM, needT, oplm, sliceM, lcMM, oneM, valI, asgS, setIxS, forS, Bool.not_true, Bool.not_false, Bool.false_eq_true, if_false, if_true, reduceIte, List.set_cons_zero, List.set_cons_succ, decide_true, decide_false, Bool.true_and, Bool.false_and, Bool.and_true, Bool.and_false, Bool.true_or, Bool.false_or, Bool.or_true, Bool.or_false, sz_lit, disp1, keyOf_s, keyOf_i, pow59, pow15, pow39, pow38, pow590, decide_eq_true_eq, aT, or_true, beq_self_eq_true, true_or, Int.reduceNeg, Int.reducePow, Int.reduceLT, Int.reduceLE, Int.reduceToNat, Nat.reduceAdd, Nat.reduceLeDiff, Nat.reducePow, and_self, and_true, true_and, false_and, and_false, or_false, false_or, List.length_cons, List.length_nil, isWord]
    by_cases h2 : 8 < (x.length : Int)
    · simp only [den__law_is_word, F__law_is_word, onStr_1, onStr1_s, pure_app, bad_app, bind_app, then_ok, then_exc, then_bad, lift_app, toRes_some, toRes_none, ite_app, slot_zero, slot_succ, thenF_nx, thenF_rt, thenF_bk, thenF_ct, isB_bl, retF_rt, retF_nx, itemsOf_tup, itemsOf_lst, itemsOf_fl, itemsOf_str, tyName_non, tyName_bl, tyName_int, tyName_str, tyName_tup, tyName_lst, tyName_fl, tyName_dk, tyName_dt, seqOf_tup, lenOf_tup, seqOf_lst, lenOf_lst, seqOf_fl, lenOf_fl, listOf_lst, listOf_fl, lstOf_lst, lenOf_str, lenD_1, allD_1, anyD_1, isi_eq, ltD_ii, ltD_ss, leD_ii, leD_ss, gtD_ii, gtD_ss, geD_ii, geD_ss, onI_ii, addD_ii, addD_ss, addD_tt, addD_ll, mulD_ii, mulD_si, mulD_li, ixD_si, ixD_tup, ixD_lst, ixD_fl, ixD_ob, intD_i, intD_b, absD_i, max2D_ii, min2D_ii, slD_s, slD_t, slD_l, intOf_i, joinD_1, upperD_0, reprBD_b, inD_eq, ninD_eq, eqD_eq, neD_eq, inB_sign, eqB_ss, eqB_ii, isD_n, isntD_n, tupleD_t, tupleD_l, listD_1, tyD_str, rng1_i, rng2_i, forM_nil, gSet_eq, bName_eq, wipeR_nil, wipeR_cons, obind_some, obind_none, omap_some, omap_none, kb_NoneType_int, kb_NoneType_bool, kb_NoneType_str, kb_NoneType_tuple, kb_NoneType_list, kb_NoneType_dict, kb_bool_int, kb_bool_bool, kb_bool_str, kb_bool_tuple, kb_bool_list, kb_bool_dict, kb_int_int, kb_int_bool, kb_int_str, kb_int_tuple, kb_int_list, kb_int_dict, kb_str_int, kb_str_bool, kb_str_str, kb_str_tuple, kb_str_list, kb_str_dict, kb_tuple_int, kb_tuple_bool, kb_tuple_str, kb_tuple_tuple, kb_tuple_list, kb_tuple_dict, kb_list_int, kb_list_bool, kb_list_str, kb_list_tuple, kb_list_list, kb_list_dict, kb_dict_int, kb_dict_bool, kb_dict_str, kb_dict_tuple, kb_dict_list, kb_dict_dict, seqS, ifS, retS, setS, dropS, skipS, asT, notT, andT, orT, ofT, andV, orV, notV, ifM, do2, opd, opd1, chain3, bltM, opl, consM, tupM, mkT, lstM, mkL, objMs, newL, alloc, fnM, methM, needT, oplm, sliceM, lcMM, oneM, valI, asgS, setIxS, forS, Bool.not_true, Bool.not_false, Bool.false_eq_true, if_false, if_true, reduceIte, List.set_cons_zero, List.set_cons_succ, decide_true, decide_false, Bool.true_and, Bool.false_and, Bool.and_true, Bool.and_false, Bool.true_or, Bool.false_or, Bool.or_true, Bool.or_false, sz_lit, disp1, keyOf_s, keyOf_i, pow59, pow15, pow39, pow38, pow590, decide_eq_true_eq, aT, or_true, beq_self_eq_true, true_or, Int.reduceNeg, Int.reducePow, Int.reduceLT, Int.reduceLE, Int.reduceToNat, Nat.reduceAdd, Nat.reduceLeDiff, Nat.reducePow, and_self, and_true, true_and, false_and, and_false, or_false, false_or, List.length_cons, List.length_nil, isWord, h1, h2]
    · simp only [den__law_is_word, F__law_is_word, onStr_1, onStr1_s, pure_app, bad_app, bind_app, then_ok, then_exc, then_bad, lift_app, toRes_some, toRes_none, ite_app, slot_zero, slot_succ, thenF_nx, thenF_rt, thenF_bk, thenF_ct, isB_bl, retF_rt, retF_nx, itemsOf_tup, itemsOf_lst, itemsOf_fl, itemsOf_str, tyName_non, tyName_bl, tyName_int, tyName_str, tyName_tup, tyName_lst, tyName_fl, tyName_dk, tyName_dt, seqOf_tup, lenOf_tup, seqOf_lst, lenOf_lst, seqOf_fl, lenOf_fl, listOf_lst, listOf_fl, lstOf_lst, lenOf_str, lenD_1, allD_1, anyD_1, isi_eq, ltD_ii, ltD_ss, leD_ii, leD_ss, gtD_ii, gtD_ss, geD_ii, geD_ss, onI_ii, addD_ii, addD_ss, addD_tt, addD_ll, mulD_ii, mulD_si, mulD_li, ixD_si, ixD_tup, ixD_lst, ixD_fl, ixD_ob, intD_i, intD_b, absD_i, max2D_ii, min2D_ii, slD_s, slD_t, slD_l, intOf_i, joinD_1, upperD_0, reprBD_b, inD_eq, ninD_eq, eqD_eq, neD_eq, inB_sign, eqB_ss, eqB_ii, isD_n, isntD_n, tupleD_t, tupleD_l, listD_1, tyD_str, rng1_i, rng2_i, forM_nil, gSet_eq, bName_eq, wipeR_nil, wipeR_cons, obind_some, obind_none, omap_some, omap_none, kb_NoneType_int, kb_NoneType_bool, kb_NoneType_str, kb_NoneType_tuple, kb_NoneType_list, kb_NoneType_dict, kb_bool_int, kb_bool_bool, kb_bool_str, kb_bool_tuple, kb_bool_list, kb_bool_dict, kb_int_int, kb_int_bool, kb_int_str, kb_int_tuple, kb_int_list, kb_int_dict, kb_str_int, kb_str_bool, kb_str_str, kb_str_tuple, kb_str_list, kb_str_dict, kb_tuple_int, kb_tuple_bool, kb_tuple_str, kb_tuple_tuple, kb_tuple_list, kb_tuple_dict, kb_list_int, kb_list_bool, kb_list_str, kb_list_tuple, kb_list_list, kb_list_dict, kb_dict_int, kb_dict_bool, kb_dict_str, kb_dict_tuple, kb_dict_list, kb_dict_dict, seqS, ifS, retS, setS, dropS, skipS, asT, notT, andT, orT, ofT, andV, orV, notV, ifM, do2, opd, opd1, chain3, bltM, opl, consM, tupM, mkT, lstM, mkL, objMs, newL, alloc, fnM, methM, needT, oplm, sliceM, lcMM, oneM, valI, asgS, setIxS, forS, Bool.not_true, Bool.not_false, Bool.false_eq_true, if_false, if_true, reduceIte, List.set_cons_zero, List.set_cons_succ, decide_true, decide_false, Bool.true_and, Bool.false_and, Bool.and_true, Bool.and_false, Bool.true_or, Bool.false_or, Bool.or_true, Bool.or_false, sz_lit, disp1, keyOf_s, keyOf_i, pow59, pow15, pow39, pow38, pow590, decide_eq_true_eq, aT, or_true, beq_self_eq_true, true_or, Int.reduceNeg, Int.reducePow, Int.reduceLT, Int.reduceLE, Int.reduceToNat, Nat.reduceAdd, Nat.reduceLeDiff, Nat.reducePow, and_self, and_true, true_and, false_and, and_false, or_false, false_or, List.length_cons, List.length_nil, isWord, h1, h2, hcomp, hl, hz, eqB_signs0]
  | ob n => exact Le.bad
  | ty n => exact Le.bad
  | ref n => exact Le.bad
  | ins n => exact Le.bad
  | _ =>
    refine le_of (Eq.trans (b := Res.ok (.bl false) S) rfl ?_)
    simp only [den__law_is_word, pure_app, bad_app, bind_app, then_ok, then_exc, then_bad, lift_app, toRes_some, toRes_none, ite_app, slot_zero, slot_succ, thenF_nx, thenF_rt, thenF_bk, thenF_ct, isB_bl, retF_rt, retF_nx, itemsOf_tup, itemsOf_lst, itemsOf_fl, itemsOf_str, tyName_non, tyName_bl, tyName_int, tyName_str, tyName_tup, tyName_lst, tyName_fl, tyName_dk, tyName_dt, seqOf_tup, lenOf_tup, seqOf_lst, lenOf_lst, seqOf_fl, lenOf_fl, listOf_lst, listOf_fl, lstOf_lst, lenOf_str, lenD_1, allD_1, anyD_1, isi_eq, ltD_ii, ltD_ss, leD_ii, leD_ss, gtD_ii, gtD_ss, geD_ii, geD_ss, onI_ii, addD_ii, addD_ss, addD_tt, addD_ll, mulD_ii, mulD_si, mulD_li, ixD_si, ixD_tup, ixD_lst, ixD_fl, ixD_ob, intD_i, intD_b, absD_i, max2D_ii, min2D_ii, slD_s, slD_t, slD_l, intOf_i, joinD_1, upperD_0, reprBD_b, inD_eq, ninD_eq, eqD_eq, neD_eq, inB_sign, eqB_ss, eqB_ii, isD_n, isntD_n, tupleD_t, tupleD_l, listD_1, tyD_str, rng1_i, rng2_i, forM_nil, gSet_eq, bName_eq, wipeR_nil, wipeR_cons, obind_some, obind_none, omap_some, omap_none, kb_NoneType_int, kb_NoneType_bool, kb_NoneType_str, kb_NoneType_tuple, kb_NoneType_list, kb_NoneType_dict, kb_bool_int, kb_bool_bool, kb_bool_str, kb_bool_tuple, kb_bool_list, kb_bool_dict, kb_int_int, kb_int_bool, kb_int_str, kb_int_tuple, kb_int_list, kb_int_dict, kb_str_int, kb_str_bool, kb_str_str, kb_str_tuple, kb_str_list, kb_str_dict, kb_tuple_int, kb_tuple_bool, kb_tuple_str, kb_tuple_tuple, kb_tuple_list, kb_tuple_dict, kb_list_int, kb_list_bool, kb_list_str, kb_list_tuple, kb_list_list, kb_list_dict, kb_dict_int, kb_dict_bool, kb_dict_str, kb_dict_tuple, kb_dict_list, kb_dict_dict, seqS, ifS, retS, setS, dropS, skipS, asT, notT, andT, orT, ofT, andV, orV, notV, ifM, do2, opd, opd1, chain3, bltM, opl, consM, tupM, mkT, lstM, mkL, objMs, newL, alloc, fnM, methM, needT, oplm, sliceM, lcMM, oneM, valI, asgS, setIxS, forS, Bool.not_true, Bool.not_false, Bool.false_eq_true, if_false, if_true, reduceIte, List.set_cons_zero, List.set_cons_succ, decide_true, decide_false, Bool.true_and, Bool.false_and, Bool.and_true, Bool.and_false, Bool.true_or, Bool.false_or, Bool.or_true, Bool.or_false, sz_lit, disp1, keyOf_s, keyOf_i, pow59, pow15, pow39, pow38, pow590, decide_eq_true_eq, aT, or_true, beq_self_eq_true, true_or, Int.reduceNeg, Int.reducePow, Int.reduceLT, Int.reduceLE, Int.reduceToNat, Nat.reduceAdd, Nat.reduceLeDiff, Nat.reducePow, and_self, and_true, true_and, false_and, and_false, or_false, false_or, List.length_cons, List.length_nil]

end
end PD

set_option Elab.async false
set_option linter.all false
set_option maxRecDepth 100000
set_option maxHeartbeats 400000
namespace PD
open PySem PySem.Spec PyProof.Rows L2
section
variable {P : Program} {w : World} {K : Frag} {mg : Str → Option Value} {base : Heap} {a : Ad}


theorem strD_choose {z : Str} (h : 0 < z.length) (w : W3) : choose (strD z) w = (.str ⟨#[(choose z.cps.toList w).1]⟩, (choose z.cps.toList w).2) := by
  obtain ⟨i, hi, e⟩ := dip_nat h w
  have e1 : z.cps.toList.length = z.length := Array.length_toList
  unfold choose
  rw [strD_len, e1]
  dsimp only
  rw [e]
  show ((strD z).getD i default, _) = (D.str ⟨#[z.cps.toList.getD i default]⟩, _)
  have hh := atI_str z i hi
  rw [atI_get _ _ (by rw [e1]; exact hi)] at hh
  rw [List.getElem?_eq_getElem (by rw [e1]; exact hi)] at hh
  rw [Prod.mk.injEq]
  refine ⟨(Option.some.inj hh).symm.trans ?_, rfl⟩
  rw [List.getD_eq_getElem?_getD, List.getElem?_eq_getElem (by rw [e1]; exact hi)]
  rfl
theorem join_signs (cs : List Nat) (h : cs.length ≤ 10) : ∃ W : Str, W.length = cs.length ∧ ∀ S, joinD S (.str "") [.lst (cs.map fun c => D.str ⟨#[c]⟩)] = some (.str W) := by
  have e : (cs.map fun c => D.str ⟨#[c]⟩) = (cs.map fun c => (⟨#[c]⟩ : Str)).map D.str := by rw [List.map_map]; rfl
  have es : strsOf (cs.map fun c => D.str ⟨#[c]⟩) = some (cs.map fun c => (⟨#[c]⟩ : Str)) := strsOf_map _ _
  have el : ((cs.map fun c => (⟨#[c]⟩ : Str)).map (·.length)).sum = cs.length := by
    clear e es h
    induction cs with
    | nil => rfl
    | cons c cs ih => simp only [List.map_cons, List.sum_cons, List.length_cons, ih]; show 1 + _ = _; omega
  have hl : (Txt.join "" (cs.map fun c => (⟨#[c]⟩ : Str))).length = cs.length := by
    show (Builtin.Str.glued _ _).length = _
    rw [PySem.size_glued, el]
    show _ + _ * 0 = _
    omega
  refine ⟨_, hl, fun S => ?_⟩
  rw [joinD_1, seqOf_lst, obind_some, es, obind_some, if_pos]
  rw [el, hl]
  have z : (10 : Nat) ≤ sizeLine := by decide
  exact ⟨by show _ + _ * 0 ≤ _; omega, by omega⟩
def odds : List D := [.str "B", .str " ", .str "0", .str "_", .str "-", .str "\n", .str "z", .str "aa", .str "", .str ".", .str "{", .str "`"]
theorem alpha_range : alpha.cps.toList = List.range' 97 26 := by decide +kernel
theorem one_lt (a b : Nat) : ([a] < [b]) = (a < b) := propext (by rw [List.cons_lt_cons_iff]; simp [List.not_lt_nil])
theorem badSign_eq (c : Nat) : (!badSign c) = decide (c ∈ alpha.cps.toList) := by
  rw [alpha_range]
  unfold badSign
  rw [show ("a" : Str).cps.toList = [97] by decide +kernel, show ("z" : Str).cps.toList = [122] by decide +kernel]
  simp only [one_lt, List.mem_range'_1]
  by_cases h1 : c < 97
  · have h2 : ¬ (97 ≤ c ∧ c < 97 + 26) := by omega
    simp [h1, h2]
  · by_cases h3 : 122 < c
    · have h2 : ¬ (97 ≤ c ∧ c < 97 + 26) := by omega
      simp [h1, h2, h3]
    · have h2 : (97 ≤ c ∧ c < 97 + 26) := by omega
      simp [h1, h2, h3]
theorem len0 (x : Str) : x.length = 0 ↔ x = "" := by
  constructor
  · intro h
    have h2 : x.cps.size = 0 := h
    obtain ⟨c⟩ := x
    rw [Array.size_eq_zero_iff] at h2
    cases h2
    rfl
  · rintro rfl; rfl
theorem filter_all (p : Nat → Bool) (xs : List Nat) : (xs.filter p).isEmpty = xs.all fun c => !p c := by
  induction xs with
  | nil => rfl
  | cons c cs ih =>
    rw [List.filter_cons, List.all_cons, ← ih]
    cases p c <;> simp
theorem name_word (x : Str) : isName x = isWord x := by
  unfold isName isWord
  rw [filter_all]
  simp only [badSign_eq]
  congr 1
  · by_cases h : x = ""
    · have := (len0 x).mpr h
      subst h
      simp
      rfl
    · have := mt (len0 x).mp h
      simp [h]; omega
  · congr 1
    by_cases h : (x.length : Int) ≤ 8
    · simp [h, show ¬ 8 < (x.length : Int) by omega]
    · simp [h, show 8 < (x.length : Int) by omega]
theorem eqB_nil0 (S : List MO) : eqB S (.lst []) (.lst []) = some true := (rfl)
def okE (d : D) : Bool := match d with
  | .str _ => true
  | d => plainK [] d
theorem okE_same {d : D} (h : okE d = true) (S : List MO) : ∃ b, F_is_name [d] S = .ok (.bl b) S ∧ F__law_is_word [d] S = .ok (.bl b) S := by
  cases d with
  | str x => exact ⟨isName x, rfl, by rw [name_word]; rfl⟩
  | non => exact ⟨false, rfl, rfl⟩
  | bl _ => exact ⟨false, rfl, rfl⟩
  | int _ => exact ⟨false, rfl, rfl⟩
  | tup _ => exact ⟨false, rfl, rfl⟩
  | lst _ => exact ⟨false, rfl, rfl⟩
  | fl _ => exact ⟨false, rfl, rfl⟩
  | dk _ _ => exact ⟨false, rfl, rfl⟩
  | dt _ _ => exact ⟨false, rfl, rfl⟩
  | ty _ => cases h
  | ref _ => cases h
  | ins _ => cases h
  | ob _ => cases h
theorem comp_same {e0 e1 e2 e3 e4 e5 e6 : Option D} {items : List D} (h : items.all okE = true) (S : List MO) : compM (oneM (bName 7) (asT (do2 (bltM (consM (fnM 1 F_is_name (consM (fun ρ => lift (slot ρ 7)) fun x => pure [])) fun x => pure []) reprBD) (bltM (consM (fnM 1 F__law_is_word (consM (fun ρ => lift (slot ρ 7)) fun x => pure [])) fun x => pure []) reprBD) neD)) (fun ρ => lift (slot ρ 7)) [e0, e1, e2, e3, e4, e5, e6, none]) items S = .ok [] S := by
  rw [compM_pure (fun _ => none) items]
  · rw [show (items.filterMap fun _ => (none : Option D)) = [] by induction items <;> simp_all]
  · intro d hd
    obtain ⟨b, h1, h2⟩ := okE_same (List.all_eq_true.mp h d hd) S
    simp only [pure_app, bad_app, bind_app, then_ok, then_exc, then_bad, lift_app, toRes_some, toRes_none, ite_app, slot_zero, slot_succ, thenF_nx, thenF_rt, thenF_bk, thenF_ct, isB_bl, retF_rt, retF_nx, itemsOf_tup, itemsOf_lst, itemsOf_fl, itemsOf_str, tyName_non, tyName_bl, tyName_int, tyName_str, tyName_tup, tyName_lst, tyName_fl, tyName_dk, tyName_dt, seqOf_tup, lenOf_tup, seqOf_lst, lenOf_lst, seqOf_fl, lenOf_fl, listOf_lst, listOf_fl, lstOf_lst, lenOf_str, lenD_1, allD_1, anyD_1, isi_eq, ltD_ii, ltD_ss, leD_ii, leD_ss, gtD_ii, gtD_ss, geD_ii, geD_ss, onI_ii, addD_ii, addD_ss, addD_tt, addD_ll, mulD_ii, mulD_si, mulD_li, ixD_si, ixD_tup, ixD_lst, ixD_fl, ixD_ob, intD_i, intD_b, absD_i, max2D_ii, min2D_ii, slD_s, slD_t, slD_l, intOf_i, joinD_1, upperD_0, reprBD_b, inD_eq, ninD_eq, eqD_eq, neD_eq, inB_sign, eqB_ss, eqB_ii, isD_n, isntD_n, tupleD_t, tupleD_l, listD_1, tyD_str, rng1_i, rng2_i, forM_nil, gSet_eq, bName_eq, wipeR_nil, wipeR_cons, obind_some, obind_none, omap_some, omap_none, kb_NoneType_int, kb_NoneType_bool, kb_NoneType_str, kb_NoneType_tuple, kb_NoneType_list, kb_NoneType_dict, kb_bool_int, kb_bool_bool, kb_bool_str, kb_bool_tuple, kb_bool_list, kb_bool_dict, kb_int_int, kb_int_bool, kb_int_str, kb_int_tuple, kb_int_list, kb_int_dict, kb_str_int, kb_str_bool, kb_str_str, kb_str_tuple, kb_str_list, kb_str_dict, kb_tuple_int, kb_tuple_bool, kb_tuple_str, kb_tuple_tuple, kb_tuple_list, kb_tuple_dict, kb_list_int, kb_list_bool, kb_list_str, kb_list_tuple, kb_list_list, kb_list_dict, kb_dict_int, kb_dict_bool, kb_dict_str, kb_dict_tuple, kb_dict_list, kb_dict_dict, seqS, ifS, retS, setS, dropS, skipS, asT, notT, andT, orT, ofT, andV, orV, notV, ifM, do2, opd, opd1, chain3, bltM, opl, consM, tupM, mkT, lstM, mkL, objMs, newL, alloc, fnM, methM, needT, oplm, sliceM, lcMM, oneM, valI, asgS, setIxS, forS, Bool.not_true, Bool.not_false, Bool.false_eq_true, if_false, if_true, reduceIte, List.set_cons_zero, List.set_cons_succ, decide_true, decide_false, Bool.true_and, Bool.false_and, Bool.and_true, Bool.and_false, Bool.true_or, Bool.false_or, Bool.or_true, Bool.or_false, sz_lit, disp1, keyOf_s, keyOf_i, pow59, pow15, pow39, pow38, pow590, decide_eq_true_eq, aT, or_true, beq_self_eq_true, true_or, Int.reduceNeg, Int.reducePow, Int.reduceLT, Int.reduceLE, Int.reduceToNat, Nat.reduceAdd, Nat.reduceLeDiff, Nat.reducePow, and_self, and_true, true_and, false_and, and_false, or_false, false_or, List.length_cons, List.length_nil, h1, h2, decide_true]
def rightW (w : W3) : W3 :=
  let r0 := dip 10 w
  let r1 := mapDr (fun (_ : Nat) => choose alpha.cps.toList) (List.range r0.1.toNat) r0.2
  let r2 := dip ((r1.1.length : Nat) + 1) r1.2
  (dip 12 r2.2).2
def F__law_right (ds : List D) : M D := fun S => match asOb (ds.getD 0 .non) with
  | none => .bad
  | some n => emb n (fun w => (.bl true, rightW w)) S
def den__law_right : Rho → M Fl := (seqS (setS 1 (fun _ => pure (.str "abcdefghijklmnopqrstuvwxyz"))) (seqS (setS 2 (methM "str" (fun _ => pure (.str "")) (consM (lcMM [6] (fun ρ => (consM (fnM 2 F__law_dip (consM (fun ρ => lift (slot ρ 0)) (consM (fun _ => pure (.int 10)) (fun _ => pure [])))) (fun _ => pure [])) ρ >>= rng1) (bName 6) (fun _ => pure true) (fnM 2 F__law_choose (consM (fun ρ => lift (slot ρ 0)) (consM (fun ρ => lift (slot ρ 1)) (fun _ => pure []))))) (fun _ => pure [])) joinD)) (seqS (setS 3 (fnM 2 F__law_dip (consM (fun ρ => lift (slot ρ 0)) (consM (do2 (bltM (consM (fun ρ => lift (slot ρ 2)) (fun _ => pure [])) lenD) (fun _ => pure (.int 1)) addD) (fun _ => pure []))))) (seqS (setS 4 (fnM 2 F__law_choose (consM (fun ρ => lift (slot ρ 0)) (consM (lstM (consM (fun _ => pure (.str "B")) (consM (fun _ => pure (.str " ")) (consM (fun _ => pure (.str "0")) (consM (fun _ => pure (.str "_")) (consM (fun _ => pure (.str "-")) (consM (fun _ => pure (.str "\n")) (consM (fun _ => pure (.str "z")) (consM (fun _ => pure (.str "aa")) (consM (fun _ => pure (.str "")) (consM (fun _ => pure (.str ".")) (consM (fun _ => pure (.str "{")) (consM (fun _ => pure (.str "`")) (fun _ => pure [])))))))))))))) (fun _ => pure []))))) (seqS (setS 5 (lstM (consM (fun ρ => lift (slot ρ 2)) (consM (do2 (do2 (sliceM (fun ρ => lift (slot ρ 2)) (fun _ => pure none) (fun ρ => (fun ρ => lift (slot ρ 3)) ρ >>= intOf)) (fun ρ => lift (slot ρ 4)) addD) (sliceM (fun ρ => lift (slot ρ 2)) (fun ρ => (fun ρ => lift (slot ρ 3)) ρ >>= intOf) (fun _ => pure none)) addD) (consM (sliceM (fun ρ => lift (slot ρ 2)) (fun ρ => (fun ρ => lift (slot ρ 3)) ρ >>= intOf) (fun _ => pure none)) (consM (methM "str" (fun ρ => lift (slot ρ 2)) (fun _ => pure []) upperD) (consM (do2 (fun ρ => lift (slot ρ 2)) (fun ρ => lift (slot ρ 2)) addD) (consM (lstM (consM (fun ρ => lift (slot ρ 2)) (fun _ => pure []))) (consM (tupM (consM (fun ρ => lift (slot ρ 2)) (fun _ => pure []))) (consM (dispM [((fun ρ => lift (slot ρ 2)), (fun _ => pure (.int 1)))]) (fun _ => pure []))))))))))) (seqS (setS 5 (do2 (fun ρ => lift (slot ρ 5)) (lstM (consM (fun _ => pure .non) (consM (fun _ => pure (.int 0)) (consM (fun _ => pure (.bl true)) (consM (do2 (fun _ => pure (.int 10)) (fun _ => pure (.int 39)) powDW) (consM (tupM (fun _ => pure [])) (consM (do2 (fun ρ => lift (slot ρ 2)) (fun _ => pure (.int 3)) mulD) (consM (sliceM (fun ρ => lift (slot ρ 2)) (fun _ => pure none) (fun ρ => (fun _ => pure (.int 8)) ρ >>= intOf)) (consM (fun _ => pure (.str "abcdefgh")) (consM (fun _ => pure (.str "abcdefghi")) (fun _ => pure []))))))))))) addD)) (retS (do2 (lcMM [7] (valI (fun ρ => lift (slot ρ 5))) (bName 7) (asT (do2 (bltM (consM (fnM 1 F_is_name (consM (fun ρ => lift (slot ρ 7)) (fun _ => pure []))) (fun _ => pure [])) reprBD) (bltM (consM (fnM 1 F__law_is_word (consM (fun ρ => lift (slot ρ 7)) (fun _ => pure []))) (fun _ => pure [])) reprBD) neD)) (fun ρ => lift (slot ρ 7))) (lstM (fun _ => pure [])) eqD))))))))
theorem tm__law_right (T : Txt K mg a) (cdv : Value) (A : Around) (outer : List Env) (s : Shared) (H : Hp) (E : XK) (hr : Room 2 (A.deeper (envOfC "_law_right" (defScope s__law_right) s.heap.objs.size a.f__law_right cdv))) :
    PDSs (cxOf (L2.CX P w) P w K mg base ["_law_well_here", "_law_signs", "_law_word", "_law_at", "_law_odd", "_law_some", "_law_turn", "_law_value"] "_law_right" (defScope s__law_right) a.f__law_right cdv A outer s H E) (fun c d _ H => E c d H) (defBody s__law_right) den__law_right := by
  have tk : Takes (cxOf (L2.CX P w) P w K mg base ["_law_well_here", "_law_signs", "_law_word", "_law_at", "_law_odd", "_law_some", "_law_turn", "_law_value"] "_law_right" (defScope s__law_right) a.f__law_right cdv A outer s H E) (fun c d _ H => E c d H) := takes_of rfl rfl rfl rfl
  exact (pdss_cons bl (pds_set 1 (pd_str (by decide)) sc__law_right.nd) (pdss_cons bl (pds_set 2 (pd_bm PySem.F.plainAttrs_str PySem.F.slot_str_join PySem.F.type_str_join m_join (pd_str (by decide)) (pda_cons (pd_lc [("_law_turn", 6)] rfl sc__law_right.nd (pdi_range1 (by rfl) T.b_range (pda_cons (pd_call (ok__law_dip T) (hr.mono (by decide)) tk (by rfl) T.g__law_dip T.F__law_dip.kp T.B__law_dip (pda_cons (pd_var 0) (pda_cons pd_int pda_nil))) pda_nil)) (blkOk_by (N := ["_law_well_here", "_law_signs", "_law_word", "_law_at", "_law_odd", "_law_some", "_law_turn", "_law_value"]) (sc := defScope s__law_right) (by decide +kernel)) (fun _ _ _ _ _ => (pg_name (i := 6) sc__law_right.nd rfl (Or.inl rfl))) ot_name (fun _ _ _ _ _ => pdts_nil) (fun _ _ _ _ _ => (pd_call (ok__law_choose T) (hr.mono (by decide)) takes0 (by rfl) T.g__law_choose T.F__law_choose.kp T.B__law_choose (pda_cons (pd_var 0) (pda_cons (pd_var 1) pda_nil))))) pda_nil)) sc__law_right.nd) (pdss_cons bl (pds_set 3 (pd_call (ok__law_dip T) (hr.mono (by decide)) tk (by rfl) T.g__law_dip T.F__law_dip.kp T.B__law_dip (pda_cons (pd_var 0) (pda_cons (pd_op o_add (pd_blt c_len (by rfl) T.b_len bo_len (pda_cons (pd_var 2) pda_nil)) pd_int) pda_nil))) sc__law_right.nd) (pdss_cons bl (pds_set 4 (pd_call (ok__law_choose T) (hr.mono (by decide)) tk (by rfl) T.g__law_choose T.F__law_choose.kp T.B__law_choose (pda_cons (pd_var 0) (pda_cons (pd_lst (pda_cons (pd_str (by decide)) (pda_cons (pd_str (by decide)) (pda_cons (pd_str (by decide)) (pda_cons (pd_str (by decide)) (pda_cons (pd_str (by decide)) (pda_cons (pd_str (by decide)) (pda_cons (pd_str (by decide)) (pda_cons (pd_str (by decide)) (pda_cons (pd_str (by decide)) (pda_cons (pd_str (by decide)) (pda_cons (pd_str (by decide)) (pda_cons (pd_str (by decide)) pda_nil))))))))))))) pda_nil))) sc__law_right.nd) (pdss_cons bl (pds_set 5 (pd_lst (pda_cons (pd_var 2) (pda_cons (pd_op o_add (pd_op o_add (pd_slice (pd_var 2) pdp_none (pdp_some (pd_var 3))) (pd_var 4)) (pd_slice (pd_var 2) (pdp_some (pd_var 3)) pdp_none)) (pda_cons (pd_slice (pd_var 2) (pdp_some (pd_var 3)) pdp_none) (pda_cons (pd_bm0 PySem.F.plainAttrs_str PySem.F.slot_str_upper PySem.F.type_str_upper m_upper (pd_var 2)) (pda_cons (pd_op o_add (pd_var 2) (pd_var 2)) (pda_cons (pd_lst (pda_cons (pd_var 2) pda_nil)) (pda_cons (pd_tup (pda_cons (pd_var 2) pda_nil)) (pda_cons (pd_disp (.cons (pd_var 2) pd_int .nil)) pda_nil))))))))) sc__law_right.nd) (pdss_cons bl (pds_set 5 (pd_op o_add (pd_var 5) (pd_lst (pda_cons pd_non (pda_cons pd_int (pda_cons pd_bl (pda_cons (pd_op o_powW pd_int pd_int) (pda_cons (pd_tup pda_nil) (pda_cons (pd_op o_mul (pd_var 2) pd_int) (pda_cons (pd_slice (pd_var 2) pdp_none (pdp_some pd_int)) (pda_cons (pd_str (by decide)) (pda_cons (pd_str (by decide)) pda_nil))))))))))) sc__law_right.nd) (pdss_one (pds_ret (pd_cmp (o_eq hr) (pd_lc [("_law_value", 7)] rfl sc__law_right.nd (pdi_val (pd_var 5)) (blkOk_by (N := ["_law_well_here", "_law_signs", "_law_word", "_law_at", "_law_odd", "_law_some", "_law_turn", "_law_value"]) (sc := defScope s__law_right) (by decide +kernel)) (fun _ _ _ _ _ => (pg_name (i := 7) sc__law_right.nd rfl (Or.inl rfl))) ot_name (fun _ _ _ _ _ => (pdts_one (pdt_cmp (o_ne hr) (pd_blt c_reprB (by rfl) T.b_repr bo_repr (pda_cons (pd_call (ok_is_name T) (hr.mono (by decide)) takes0 (by rfl) T.g_is_name T.F_is_name.kp T.B_is_name (pda_cons (pd_var 7) pda_nil)) pda_nil)) (pd_blt c_reprB (by rfl) T.b_repr bo_repr (pda_cons (pd_call (ok__law_is_word T) (hr.mono (by decide)) takes0 (by rfl) T.g__law_is_word T.F__law_is_word.kp T.B__law_is_word (pda_cons (pd_var 7) pda_nil)) pda_nil)) (nomark _)))) (fun _ _ _ _ _ => (pd_var 7))) (pd_lst pda_nil) (nomark _))))))))))
theorem ok__law_right (T : Txt K mg a) : FnOk P w K mg base (L2.CX P w) 3 a.f__law_right a.d__law_right ["_law_well_here"] (spM K 1 F__law_right) :=
  def_ok T.F__law_right sc__law_right (fun cdv A outer s H E hr => tm__law_right T cdv A outer s H E hr) fun ds S hl hc hf hs => by
  match ds, hl with
  | [d], _ =>
  show Le _ _ ((den__law_right [some d, none, none, none, none, none, none, none] >>= retF) S)
  unfold F__law_right
  show Le _ (match asOb d with | none => .bad | some n => emb n (fun w => (.bl true, rightW w)) S) _
  cases h1 : asOb d with
  | none => exact Le.bad
  | some n =>
  obtain rfl := asOb_some h1
  refine emb_cases (p := fun r => Le S.length r _) Le.bad fun w hn hS => le_of ?_
  rw [hS, put_put]
  have hd := fun (k : Int) h1 h2 w => F_dip_put (k := k) (w := w) hn h1 h2
  obtain ⟨j, hj, ej⟩ := dip_nat (n := 10) (by omega) w
  have ej : (dip 10 w).1 = (j : Int) := ej
  have hch : ∀ w1 : W3, F__law_choose [.ob n, .str alpha] (put S n w1) = .ok (.str ⟨#[(choose alpha.cps.toList w1).1]⟩) (put S n (choose alpha.cps.toList w1).2) := by
    intro w1
    show (if 0 < (strD alpha).length ∧ (strD alpha).length < 1073741824 then emb n (choose (strD alpha)) (put S n w1) else .bad) = _
    rw [if_pos (by rw [strD_len]; decide), emb_put hn, strD_choose (by decide)]
  have hcomp : compM (oneM (bName 6) (fun x => pure true) (fnM 2 F__law_choose (consM (fun ρ => lift (slot ρ 0)) (consM (fun ρ => lift (slot ρ 1)) fun x => pure []))) [some (D.ob n), some (D.str "abcdefghijklmnopqrstuvwxyz"), none, none, none, none, none, none]) (upD 0 j) (put S n (dip 10 w).2)
      = .ok ((mapDr (fun (_ : Nat) => choose alpha.cps.toList) (List.range j) (dip 10 w).2).1.map fun c => .str ⟨#[c]⟩) (put S n (mapDr (fun (_ : Nat) => choose alpha.cps.toList) (List.range j) (dip 10 w).2).2) := by
    rw [upD_map]
    refine compM_draw hn _ _ _ _ _ fun i _ w1 => ?_
    have hch := hch w1
    rw [show alpha = "abcdefghijklmnopqrstuvwxyz" from rfl] at hch
    simp only [pure_app, bad_app, bind_app, then_ok, then_exc, then_bad, lift_app, toRes_some, toRes_none, ite_app, slot_zero, slot_succ, thenF_nx, thenF_rt, thenF_bk, thenF_ct, isB_bl, retF_rt, retF_nx, itemsOf_tup, itemsOf_lst, itemsOf_fl, itemsOf_str, tyName_non, tyName_bl, tyName_int, tyName_str, tyName_tup, tyName_lst, tyName_fl, tyName_dk, tyName_dt, seqOf_tup, lenOf_tup, seqOf_lst, lenOf_lst, seqOf_fl, lenOf_fl, listOf_lst, listOf_fl, lstOf_lst, lenOf_str, lenD_1, allD_1, anyD_1, isi_eq, ltD_ii, ltD_ss, leD_ii, leD_ss, gtD_ii, gtD_ss, geD_ii, geD_ss, onI_ii, addD_ii, addD_ss, addD_tt, addD_ll, mulD_ii, mulD_si, mulD_li, ixD_si, ixD_tup, ixD_lst, ixD_fl, ixD_ob, intD_i, intD_b, absD_i, max2D_ii, min2D_ii, slD_s, slD_t, slD_l, intOf_i, joinD_1, upperD_0, reprBD_b, inD_eq, ninD_eq, eqD_eq, neD_eq, inB_sign, eqB_ss, eqB_ii, isD_n, isntD_n, tupleD_t, tupleD_l, listD_1, tyD_str, rng1_i, rng2_i, forM_nil, gSet_eq, bName_eq, wipeR_nil, wipeR_cons, obind_some, obind_none, omap_some, omap_none, kb_NoneType_int, kb_NoneType_bool, kb_NoneType_str, kb_NoneType_tuple, kb_NoneType_list, kb_NoneType_dict, kb_bool_int, kb_bool_bool, kb_bool_str, kb_bool_tuple, kb_bool_list, kb_bool_dict, kb_int_int, kb_int_bool, kb_int_str, kb_int_tuple, kb_int_list, kb_int_dict, kb_str_int, kb_str_bool, kb_str_str, kb_str_tuple, kb_str_list, kb_str_dict, kb_tuple_int, kb_tuple_bool, kb_tuple_str, kb_tuple_tuple, kb_tuple_list, kb_tuple_dict, kb_list_int, kb_list_bool, kb_list_str, kb_list_tuple, kb_list_list, kb_list_dict, kb_dict_int, kb_dict_bool, kb_dict_str, kb_dict_tuple, kb_dict_list, kb_dict_dict, seqS, ifS, retS, setS, dropS, skipS, asT, notT, andT, orT, ofT, andV, orV, notV, ifM, do2, opd, opd1, chain3, bltM, opl, consM, tupM, mkT, lstM, mkL, objMs, newL, alloc, fnM, methM, needT, oplm, sliceM, lcMM, oneM, valI, asgS, setIxS, forS, Bool.not_true, Bool.not_false, Bool.false_eq_true, if_false, if_true, reduceIte, List.set_cons_zero, List.set_cons_succ, decide_true, decide_false, Bool.true_and, Bool.false_and, Bool.and_true, Bool.and_false, Bool.true_or, Bool.false_or, Bool.or_true, Bool.or_false, sz_lit, disp1, keyOf_s, keyOf_i, pow59, pow15, pow39, pow38, pow590, decide_eq_true_eq, aT, or_true, beq_self_eq_true, true_or, Int.reduceNeg, Int.reducePow, Int.reduceLT, Int.reduceLE, Int.reduceToNat, Nat.reduceAdd, Nat.reduceLeDiff, Nat.reducePow, and_self, and_true, true_and, false_and, and_false, or_false, false_or, List.length_cons, List.length_nil, hch]
    rfl
  have j1 : (-4611686018427387904 ≤ (j : Int)) = True := eq_true (by omega)
  have j2 : ((j : Int) < 4611686018427387904) = True := eq_true (by omega)
  have jt : ((j : Nat) : Int).toNat = j := rfl
  have cl := mapDr_len (fun (_ : Nat) => choose alpha.cps.toList) (List.range j) (dip 10 w).2
  unfold rightW
  simp only [ej, jt]
  generalize mapDr (fun (_ : Nat) => choose alpha.cps.toList) (List.range j) (dip 10 w).2 = R at hcomp cl
  obtain ⟨cs, w2⟩ := R
  simp only [List.length_range] at cl
  obtain ⟨W, hW, hjoin⟩ := join_signs cs (by omega)
  have c1 : ((cs.map fun c => D.str ⟨#[c]⟩).length ≤ sizeLine) = True := eq_true (by rw [List.length_map]; exact Nat.le_trans (m := 10) (by omega) (by decide))
  have d1 : ∀ w1, F__law_dip [.ob n, .int ((W.length : Int) + 1)] (put S n w1) = .ok (.int (dip ((cs.length : Nat) + 1) w1).1) (put S n (dip ((cs.length : Nat) + 1) w1).2) := fun w1 => by rw [hd _ (by omega) (by omega), hW]
  have hodd : ∀ w1 : W3, ∃ o : Str, o.length ≤ 2 ∧ F__law_choose [.ob n, .lst odds] (put S n w1) = .ok (.str o) (put S n (dip 12 w1).2) := by
    intro w1
    have hm := choose_mem (xs := odds) (by unfold odds; exact List.cons_ne_nil _ _) w1
    have hm2 : ∀ e ∈ odds, ∃ o : Str, o.length ≤ 2 ∧ e = .str o := by
      intro e he
      simp only [odds, List.mem_cons, List.not_mem_nil, or_false] at he
      rcases he with rfl | rfl | rfl | rfl | rfl | rfl | rfl | rfl | rfl | rfl | rfl | rfl <;> exact ⟨_, by decide, rfl⟩
    obtain ⟨o, ho, eo⟩ := hm2 _ hm
    refine ⟨o, ho, ?_⟩
    show (if 0 < odds.length ∧ odds.length < 1073741824 then emb n (choose odds) (put S n w1) else .bad) = _
    rw [if_pos (by decide), emb_put hn, eo]
    rfl
  generalize hR2 : dip ((cs.length : Nat) + 1) w2 = R2
  have d1 := d1 w2
  rw [hR2] at d1
  obtain ⟨i, w3⟩ := R2
  obtain ⟨o, ho, hodd⟩ := hodd w3
  unfold odds at hodd
  have s1 : ∀ a b : Option Int, (cutS W a b).length ≤ 9 := fun a b => Nat.le_trans (cutS_length _ _ _) (by omega)
  have q1 : ((cutS W none (some i)).length + o.length ≤ sizeLine) = True := eq_true (Nat.le_trans (m := 11) (by have := s1 none (some i); omega) (by decide))
  have q2 : ((cutS W none (some i) ++ o).length + (cutS W (some i) none).length ≤ sizeLine) = True := eq_true (Nat.le_trans (m := 20) (by rw [Str.length_append]; have := s1 none (some i); have := s1 (some i) none; omega) (by decide))
  have q3 : (W.length ≤ 5592405) = True := eq_true (by omega)
  have q4 : ((Txt.upper W).length ≤ sizeLine) = True := eq_true (Nat.le_trans (len_upper W) (Nat.le_trans (m := 27) (by omega) (by decide)))
  have q5 : (W.length + W.length ≤ sizeLine) = True := eq_true (Nat.le_trans (m := 27) (by omega) (by decide))
  have q6 : (W.length ≤ 1000) = True := eq_true (by omega)
  simp only [den__law_right, pure_app, bad_app, bind_app, then_ok, then_exc, then_bad, lift_app, toRes_some, toRes_none, ite_app, slot_zero, slot_succ, thenF_nx, thenF_rt, thenF_bk, thenF_ct, isB_bl, retF_rt, retF_nx, itemsOf_tup, itemsOf_lst, itemsOf_fl, itemsOf_str, tyName_non, tyName_bl, tyName_int, tyName_str, tyName_tup, tyName_lst, tyName_fl, tyName_dk, tyName_dt, seqOf_tup, lenOf_tup, seqOf_lst, lenOf_lst, seqOf_fl, lenOf_fl, listOf_lst, listOf_fl, lstOf_lst, lenOf_str, lenD_1, allD_1, anyD_1, isi_eq, ltD_ii, ltD_ss, leD_ii, leD_ss, gtD_ii, gtD_ss, geD_ii, geD_ss, onI_ii, addD_ii, addD_ss, addD_tt, addD_ll, mulD_ii, mulD_si, mulD_li, ixD_si, ixD_tup, ixD_lst, ixD_fl, ixD_ob, intD_i, intD_b, absD_i, max2D_ii, min2D_ii, slD_s, slD_t, slD_l, intOf_i, upperD_0, reprBD_b, inD_eq, ninD_eq, eqD_eq, neD_eq, inB_sign, eqB_ss, eqB_ii, isD_n, isntD_n, tupleD_t, tupleD_l, listD_1, tyD_str, rng1_i, rng2_i, forM_nil, gSet_eq, bName_eq, wipeR_nil, wipeR_cons, obind_some, obind_none, omap_some, omap_none, kb_NoneType_int, kb_NoneType_bool, kb_NoneType_str, kb_NoneType_tuple, kb_NoneType_list, kb_NoneType_dict, kb_bool_int, kb_bool_bool, kb_bool_str, kb_bool_tuple, kb_bool_list, kb_bool_dict, kb_int_int, kb_int_bool, kb_int_str, kb_int_tuple, kb_int_list, kb_int_dict, kb_str_int, kb_str_bool, kb_str_str, kb_str_tuple, kb_str_list, kb_str_dict, kb_tuple_int, kb_tuple_bool, kb_tuple_str, kb_tuple_tuple, kb_tuple_list, kb_tuple_dict, kb_list_int, kb_list_bool, kb_list_str, kb_list_tuple, kb_list_list, kb_list_dict, kb_dict_int, kb_dict_bool, kb_dict_str, kb_dict_tuple, kb_dict_list, kb_dict_dict, seqS, ifS, retS, setS, dropS, skipS, asT, notT, andT, orT, ofT, andV, orV, notV, ifM, do2, opd, opd1, chain3, bltM, opl, consM, tupM, mkT, lstM, mkL, objMs, newL, alloc, fnM, methM, needT, oplm, sliceM, lcMM, oneM, valI, asgS, setIxS, forS, Bool.not_true, Bool.not_false, Bool.false_eq_true, if_false, if_true, reduceIte, List.set_cons_zero, List.set_cons_succ, decide_true, decide_false, Bool.true_and, Bool.false_and, Bool.and_true, Bool.and_false, Bool.true_or, Bool.false_or, Bool.or_true, Bool.or_false, sz_lit, disp1, keyOf_s, keyOf_i, pow59, pow15, pow39, pow38, pow590, decide_eq_true_eq, aT, or_true, beq_self_eq_true, true_or, Int.reduceNeg, Int.reducePow, Int.reduceLT, Int.reduceLE, Int.reduceToNat, Nat.reduceAdd, Nat.reduceLeDiff, Nat.reducePow, and_self, and_true, true_and, false_and, and_false, or_false, false_or, List.length_cons, List.length_nil, hd, ej, j1, j2, jt, hcomp, hjoin, c1, d1, hR2, hodd, q1, q2, q3, q4, q5, q6]
  rw [comp_same rfl]
  simp only [pure_app, bad_app, bind_app, then_ok, then_exc, then_bad, lift_app, toRes_some, toRes_none, ite_app, slot_zero, slot_succ, thenF_nx, thenF_rt, thenF_bk, thenF_ct, isB_bl, retF_rt, retF_nx, itemsOf_tup, itemsOf_lst, itemsOf_fl, itemsOf_str, tyName_non, tyName_bl, tyName_int, tyName_str, tyName_tup, tyName_lst, tyName_fl, tyName_dk, tyName_dt, seqOf_tup, lenOf_tup, seqOf_lst, lenOf_lst, seqOf_fl, lenOf_fl, listOf_lst, listOf_fl, lstOf_lst, lenOf_str, lenD_1, allD_1, anyD_1, isi_eq, ltD_ii, ltD_ss, leD_ii, leD_ss, gtD_ii, gtD_ss, geD_ii, geD_ss, onI_ii, addD_ii, addD_ss, addD_tt, addD_ll, mulD_ii, mulD_si, mulD_li, ixD_si, ixD_tup, ixD_lst, ixD_fl, ixD_ob, intD_i, intD_b, absD_i, max2D_ii, min2D_ii, slD_s, slD_t, slD_l, intOf_i, joinD_1, upperD_0, reprBD_b, inD_eq, ninD_eq, eqD_eq, neD_eq, inB_sign, eqB_ss, eqB_ii, isD_n, isntD_n, tupleD_t, tupleD_l, listD_1, tyD_str, rng1_i, rng2_i, forM_nil, gSet_eq, bName_eq, wipeR_nil, wipeR_cons, obind_some, obind_none, omap_some, omap_none, kb_NoneType_int, kb_NoneType_bool, kb_NoneType_str, kb_NoneType_tuple, kb_NoneType_list, kb_NoneType_dict, kb_bool_int, kb_bool_bool, kb_bool_str, kb_bool_tuple, kb_bool_list, kb_bool_dict, kb_int_int, kb_int_bool, kb_int_str, kb_int_tuple, kb_int_list, kb_int_dict, kb_str_int, kb_str_bool, kb_str_str, kb_str_tuple, kb_str_list, kb_str_dict, kb_tuple_int, kb_tuple_bool, kb_tuple_str, kb_tuple_tuple, kb_tuple_list, kb_tuple_dict, kb_list_int, kb_list_bool, kb_list_str, kb_list_tuple, kb_list_list, kb_list_dict, kb_dict_int, kb_dict_bool, kb_dict_str, kb_dict_tuple, kb_dict_list, kb_dict_dict, seqS, ifS, retS, setS, dropS, skipS, asT, notT, andT, orT, ofT, andV, orV, notV, ifM, do2, opd, opd1, chain3, bltM, opl, consM, tupM, mkT, lstM, mkL, objMs, newL, alloc, fnM, methM, needT, oplm, sliceM, lcMM, oneM, valI, asgS, setIxS, forS, Bool.not_true, Bool.not_false, Bool.false_eq_true, if_false, if_true, reduceIte, List.set_cons_zero, List.set_cons_succ, decide_true, decide_false, Bool.true_and, Bool.false_and, Bool.and_true, Bool.and_false, Bool.true_or, Bool.false_or, Bool.or_true, Bool.or_false, sz_lit, disp1, keyOf_s, keyOf_i, pow59, pow15, pow39, pow38, pow590, decide_eq_true_eq, aT, or_true, beq_self_eq_true, true_or, Int.reduceNeg, Int.reducePow, Int.reduceLT, Int.reduceLE, Int.reduceToNat, Nat.reduceAdd, Nat.reduceLeDiff, Nat.reducePow, and_self, and_true, true_and, false_and, and_false, or_false, false_or, List.length_cons, List.length_nil, eqB_nil0]

end
end PD

set_option Elab.async false
set_option linter.all false
set_option maxRecDepth 100000
set_option maxHeartbeats 400000
namespace PD
open PySem PySem.Spec PyProof.Rows L2
section
variable {P : Program} {w : World} {K : Frag} {mg : Str → Option Value} {base : Heap} {a : Ad}


theorem emb_app (f : Dr D) (S : List MO) (w : W3) : emb S.length f (S ++ [wl w]) = .ok (f w).1 (S ++ [wl (f w).2]) := by
  have e : ∀ v, put (S ++ [wl w]) S.length v = S ++ [wl v] := fun v => by unfold put; rw [List.set_append_right _ _ (Nat.le_refl _), Nat.sub_self]; rfl
  have h := emb_put (n := S.length) (f := f) (S := S ++ [wl w]) (w := w) (by rw [List.length_append]; exact Nat.lt_succ_self _)
  rw [e, e] at h
  exact h
def told : List Str := ["a", "on", "zzzzzzzz", "aaaaaaaaa", "", "Raise", "a1", "leave"]
theorem told_comp {e0 e1 e2 e3 e4 : Option D} (S : List MO) : compM (oneM (bName 5) (fun x => pure true) (fnM 1 F_is_name (consM (fun ρ => lift (slot ρ 5)) fun x => pure [])) [e0, e1, e2, e3, e4, none]) [.str "a", .str "on", .str "zzzzzzzz", .str "aaaaaaaaa", .str "", .str "Raise", .str "a1", .str "leave"] S
    = .ok [.bl true, .bl true, .bl true, .bl false, .bl false, .bl false, .bl false, .bl true] S := by
  have h := compM_encM (f := oneM (bName 5) (fun x => pure true) (fnM 1 F_is_name (consM (fun ρ => lift (slot ρ 5)) fun x => pure [])) [e0, e1, e2, e3, e4, none]) (S := S) D.str (fun x => .bl (isName x)) told fun x _ => by
    have e : F_is_name [.str x] S = .ok (.bl (isName x)) S := rfl
    simp only [pure_app, bad_app, bind_app, then_ok, then_exc, then_bad, lift_app, toRes_some, toRes_none, ite_app, slot_zero, slot_succ, thenF_nx, thenF_rt, thenF_bk, thenF_ct, isB_bl, retF_rt, retF_nx, itemsOf_tup, itemsOf_lst, itemsOf_fl, itemsOf_str, tyName_non, tyName_bl, tyName_int, tyName_str, tyName_tup, tyName_lst, tyName_fl, tyName_dk, tyName_dt, seqOf_tup, lenOf_tup, seqOf_lst, lenOf_lst, seqOf_fl, lenOf_fl, listOf_lst, listOf_fl, lstOf_lst, lenOf_str, lenD_1, allD_1, anyD_1, isi_eq, ltD_ii, ltD_ss, leD_ii, leD_ss, gtD_ii, gtD_ss, geD_ii, geD_ss, onI_ii, addD_ii, addD_ss, addD_tt, addD_ll, mulD_ii, mulD_si, mulD_li, ixD_si, ixD_tup, ixD_lst, ixD_fl, ixD_ob, intD_i, intD_b, absD_i, max2D_ii, min2D_ii, slD_s, slD_t, slD_l, intOf_i, joinD_1, upperD_0, reprBD_b, inD_eq, ninD_eq, eqD_eq, neD_eq, inB_sign, eqB_ss, eqB_ii, isD_n, isntD_n, tupleD_t, tupleD_l, listD_1, tyD_str, rng1_i, rng2_i, forM_nil, gSet_eq, bName_eq, wipeR_nil, wipeR_cons, obind_some, obind_none, omap_some, omap_none, kb_NoneType_int, kb_NoneType_bool, kb_NoneType_str, kb_NoneType_tuple, kb_NoneType_list, kb_NoneType_dict, kb_bool_int, kb_bool_bool, kb_bool_str, kb_bool_tuple, kb_bool_list, kb_bool_dict, kb_int_int, kb_int_bool, kb_int_str, kb_int_tuple, kb_int_list, kb_int_dict, kb_str_int, kb_str_bool, kb_str_str, kb_str_tuple, kb_str_list, kb_str_dict, kb_tuple_int, kb_tuple_bool, kb_tuple_str, kb_tuple_tuple, kb_tuple_list, kb_tuple_dict, kb_list_int, kb_list_bool, kb_list_str, kb_list_tuple, kb_list_list, kb_list_dict, kb_dict_int, kb_dict_bool, kb_dict_str, kb_dict_tuple, kb_dict_list, kb_dict_dict, seqS, ifS, retS, setS, dropS, skipS, asT, notT, andT, orT, ofT, andV, orV, notV, ifM, do2, opd, opd1, chain3, bltM, opl, consM, tupM, mkT, lstM, mkL, objMs, newL, alloc, fnM, methM, needT, oplm, sliceM, lcMM, oneM, valI, asgS, setIxS, forS, Bool.not_true, Bool.not_false, Bool.false_eq_true, if_false, if_true, reduceIte, List.set_cons_zero, List.set_cons_succ, decide_true, decide_false, Bool.true_and, Bool.false_and, Bool.and_true, Bool.and_false, Bool.true_or, Bool.false_or, Bool.or_true, Bool.or_false, sz_lit, disp1, keyOf_s, keyOf_i, pow59, pow15, pow39, pow38, pow590, decide_eq_true_eq, aT, or_true, beq_self_eq_true, true_or, Int.reduceNeg, Int.reducePow, Int.reduceLT, Int.reduceLE, Int.reduceToNat, Nat.reduceAdd, Nat.reduceLeDiff, Nat.reducePow, and_self, and_true, true_and, false_and, and_false, or_false, false_or, List.length_cons, List.length_nil, e]
  have e : told.map (fun x => D.bl (isName x)) = [.bl true, .bl true, .bl true, .bl false, .bl false, .bl false, .bl false, .bl true] := by
    have e2 : told.map isName = [true, true, true, false, false, false, false, true] := by decide +kernel
    have e3 := congrArg (List.map D.bl) e2
    rw [List.map_map] at e3
    exact e3
  rw [e] at h
  exact h
theorem told_eq (S : List MO) : eqB S (.lst [.bl true, .bl true, .bl true, .bl false, .bl false, .bl false, .bl false, .bl true]) (.lst [.bl true, .bl true, .bl true, .bl false, .bl false, .bl false, .bl false, .bl true]) = some true := (rfl)
def F_law (ds : List D) : M D := fun S => match asFl (ds.getD 0 .non) with
  | none => .bad
  | some xs => match intsOf xs with
    | none => .bad
    | some ns => if xs.length ≤ sizeLine then .ok (.bl true) S else .bad

def den_law : Rho → M Fl := (seqS (forS (fun ρ => (consM (bltM (consM (fun _ => pure (.int 1)) (consM (bltM (consM (fun _ => pure (.int 8)) (consM (bltM (consM (fun ρ => lift (slot ρ 0)) (fun _ => pure [])) lenD) (fun _ => pure []))) min2D) (fun _ => pure []))) max2D) (fun _ => pure [])) ρ >>= rng1) (gSet 1) (seqS (setS 3 (fnM 2 F__law_well (consM (fun ρ => lift (slot ρ 0)) (consM (fun ρ => lift (slot ρ 1)) (fun _ => pure []))))) (forS (fun ρ => (consM (fun _ => pure (.int 5)) (fun _ => pure [])) ρ >>= rng1) (gSet 4) (ifS (notT (asT (fnM 1 F__law_right (consM (fun ρ => lift (slot ρ 3)) (fun _ => pure []))))) (retS (fun _ => pure (.bl false))) skipS)))) (seqS (setS 2 (lcMM [5] (valI (tupM (consM (fun _ => pure (.str "a")) (consM (fun _ => pure (.str "on")) (consM (fun _ => pure (.str "zzzzzzzz")) (consM (fun _ => pure (.str "aaaaaaaaa")) (consM (fun _ => pure (.str "")) (consM (fun _ => pure (.str "Raise")) (consM (fun _ => pure (.str "a1")) (consM (fun _ => pure (.str "leave")) (fun _ => pure []))))))))))) (bName 5) (fun _ => pure true) (fnM 1 F_is_name (consM (fun ρ => lift (slot ρ 5)) (fun _ => pure []))))) (retS (do2 (fun ρ => lift (slot ρ 2)) (lstM (consM (fun _ => pure (.bl true)) (consM (fun _ => pure (.bl true)) (consM (fun _ => pure (.bl true)) (consM (fun _ => pure (.bl false)) (consM (fun _ => pure (.bl false)) (consM (fun _ => pure (.bl false)) (consM (fun _ => pure (.bl false)) (consM (fun _ => pure (.bl true)) (fun _ => pure [])))))))))) eqD))))
theorem tm_law (T : Txt K mg a) (cdv : Value) (A : Around) (outer : List Env) (s : Shared) (H : Hp) (E : XK) (hr : Room 3 (A.deeper (envOfC "law" (defScope s_law) s.heap.objs.size a.f_law cdv))) :
    PDSs (cxOf (L2.CX P w) P w K mg base ["_law_script", "_law_spot", "_law_told", "_law_well_here", "_law_turn", "_law_word"] "law" (defScope s_law) a.f_law cdv A outer s H E) (fun c d _ H => E c d H) (defBody s_law) den_law := by
  have tk : Takes (cxOf (L2.CX P w) P w K mg base ["_law_script", "_law_spot", "_law_told", "_law_well_here", "_law_turn", "_law_word"] "law" (defScope s_law) a.f_law cdv A outer s H E) (fun c d _ H => E c d H) := takes_of rfl rfl rfl rfl
  exact (pdss_cons bl (pds_for bl (passes_of rfl) rfl (pdi_range1 (by rfl) T.b_range (pda_cons (pd_blt (c_max2 rfl) (by rfl) T.b_max bo_max (pda_cons pd_int (pda_cons (pd_blt (c_min2 rfl) (by rfl) T.b_min bo_min (pda_cons pd_int (pda_cons (pd_blt c_len (by rfl) T.b_len bo_len (pda_cons (pd_var 0) pda_nil)) pda_nil))) pda_nil))) pda_nil)) (pdg_name 1 sc_law.nd) (pdss_cons bl (pds_set 3 (pd_call (ok__law_well T) (hr.mono (by decide)) tk (by rfl) T.g__law_well T.F__law_well.kp T.B__law_well (pda_cons (pd_var 0) (pda_cons (pd_var 1) pda_nil))) sc_law.nd) (pdss_one (pds_for bl (passes_of rfl) rfl (pdi_range1 (by rfl) T.b_range (pda_cons pd_int pda_nil)) (pdg_name 4 sc_law.nd) (pdss_one (pds_if (pdt_not (pdt_val (pd_call (ok__law_right T) (hr.mono (by decide)) tk (by rfl) T.g__law_right T.F__law_right.kp T.B__law_right (pda_cons (pd_var 3) pda_nil)))) (pdss_one (pds_ret pd_bl)) pdss_nil)))))) (pdss_cons bl (pds_setLc 2 [("_law_word", 5)] rfl sc_law.nd (sw_true rfl rfl rfl (by decide +kernel)) (pdi_val (pd_tup (pda_cons (pd_str (by decide)) (pda_cons (pd_str (by decide)) (pda_cons (pd_str (by decide)) (pda_cons (pd_str (by decide)) (pda_cons (pd_str (by decide)) (pda_cons (pd_str (by decide)) (pda_cons (pd_str (by decide)) (pda_cons (pd_str (by decide)) pda_nil)))))))))) (blkOk_by (N := ["_law_script", "_law_spot", "_law_told", "_law_well_here", "_law_turn", "_law_word"]) (sc := defScope s_law) (by decide +kernel)) (fun _ _ _ _ _ => (pg_name (i := 5) sc_law.nd rfl (Or.inl rfl))) ot_name (fun _ _ _ _ _ => pdts_nil) (fun _ _ _ _ _ => (pd_call (ok_is_name T) (hr.mono (by decide)) takes0 (by rfl) T.g_is_name T.F_is_name.kp T.B_is_name (pda_cons (pd_var 5) pda_nil)))) (pdss_one (pds_ret (pd_cmp (o_eq hr) (pd_var 2) (pd_lst (pda_cons pd_bl (pda_cons pd_bl (pda_cons pd_bl (pda_cons pd_bl (pda_cons pd_bl (pda_cons pd_bl (pda_cons pd_bl (pda_cons pd_bl pda_nil))))))))) (nomark _))))))
theorem ok_law (T : Txt K mg a) : FnOk P w K mg base (L2.CX P w) 4 a.f_law a.d_law ["_law_script"] (spM K 1 F_law) :=
  def_ok T.F_law sc_law (fun cdv A outer s H E hr => tm_law T cdv A outer s H E hr) fun ds S hl hc hf hs => by
  match ds, hl with
  | [d], _ =>
  show Le _ _ ((den_law [some d, none, none, none, none, none] >>= retF) S)
  unfold F_law
  show Le _ (match asFl d with | none => .bad | some xs => match intsOf xs with | none => .bad | some ns => if xs.length ≤ sizeLine then .ok (.bl true) S else .bad) _
  cases h1 : asFl d with
  | none => exact Le.bad
  | some xs =>
  obtain rfl := asFl_some h1
  dsimp only
  cases hn : intsOf xs with
  | none => exact Le.bad
  | some ns =>
  dsimp only
  by_cases hz : xs.length ≤ sizeLine
  · rw [if_pos hz]
    have hk : ∃ k : Nat, k ≤ 8 ∧ (if (if (xs.length : Int) < 8 then (xs.length : Int) else 8) > 1 then if (xs.length : Int) < 8 then (xs.length : Int) else 8 else 1) = (k : Int) := by
      refine ⟨(if (if (xs.length : Int) < 8 then (xs.length : Int) else 8) > 1 then if (xs.length : Int) < 8 then (xs.length : Int) else 8 else 1).toNat, ?_, ?_⟩ <;> split <;> split <;> omega
    obtain ⟨k, hk8, hk⟩ := hk
    have j1 : (-4611686018427387904 ≤ (k : Int)) = True := eq_true (by omega)
    have j2 : ((k : Int) < 4611686018427387904) = True := eq_true (by omega)
    have jt : ((k : Nat) : Int).toNat = k := rfl
    have hloop : ∃ ρ' S', forM (gSet 1) (seqS (setS 3 (fnM 2 F__law_well (consM (fun ρ => lift (slot ρ 0)) (consM (fun ρ => lift (slot ρ 1)) fun x => pure [])))) (forS (fun ρ => (do let x ← pure (D.int 5); let xs ← pure []; pure (x :: xs)) >>= rng1) (gSet 4) (ifS (notT (asT (fnM 1 F__law_right (consM (fun ρ => lift (slot ρ 3)) fun x => pure [])))) (retS fun x => pure (D.bl false)) skipS))) (upD 0 k) [some (D.fl xs), none, none, none, none, none] S = .ok (.nx ρ') S' ∧ (∃ a1 a3 a4 g, ρ' = [some (.fl xs), a1, none, a3, a4, none] ∧ S' = S ++ g) := by
      refine forM_inv (fun ρ' S' => ∃ a1 a3 a4 g, ρ' = [some (.fl xs), a1, none, a3, a4, none] ∧ S' = S ++ g) _ ?_ ⟨none, none, none, [], rfl, (List.append_nil _).symm⟩
      rintro d hd ρ1 S1 ⟨a1, a3, a4, g, rfl, rfl⟩
      rw [upD_map] at hd
      obtain ⟨i, hi, rfl⟩ := List.mem_map.mp hd
      have hi := List.mem_range.mp hi
      have hw : F__law_well [.fl xs, .int (i : Nat)] (S ++ g) = .ok (.ob (S ++ g).length) (S ++ g ++ [wl (wellOf ns i)]) := by
        show (match intsOf xs with | none => Res.bad | some ns => if 0 ≤ (i : Int) ∧ (i : Int) < 1000 then Res.ok (D.ob (S ++ g).length) (S ++ g ++ [wl (wellOf ns i)]) else .bad) = _
        rw [hn]
        dsimp only
        rw [if_pos (by omega)]
      have hin : ∃ ρ2 S2, forM (gSet 4) (ifS (notT (asT (fnM 1 F__law_right (consM (fun ρ => lift (slot ρ 3)) fun x => pure [])))) (retS fun x => pure (D.bl false)) skipS) (upD 0 5) [some (.fl xs), some (.int (i : Nat)), none, some (.ob (S ++ g).length), a4, none] (S ++ g ++ [wl (wellOf ns i)]) = .ok (.nx ρ2) S2 ∧ (∃ a4 w, ρ2 = [some (.fl xs), some (.int (i : Nat)), none, some (.ob (S ++ g).length), a4, none] ∧ S2 = S ++ g ++ [wl w]) := by
        refine forM_inv (fun ρ2 S2 => ∃ a4 w, ρ2 = [some (.fl xs), some (.int (i : Nat)), none, some (.ob (S ++ g).length), a4, none] ∧ S2 = S ++ g ++ [wl w]) _ ?_ ⟨_, _, rfl, rfl⟩
        rintro d hd ρ1 S1 ⟨a4, w, rfl, rfl⟩
        have hr : F__law_right [.ob (S ++ g).length] (S ++ g ++ [wl w]) = .ok (.bl true) (S ++ g ++ [wl (rightW w)]) := emb_app (fun w => (.bl true, rightW w)) (S ++ g) w
        refine ⟨[some (.fl xs), some (.int (i : Nat)), none, some (.ob (S ++ g).length), some d, none], S ++ g ++ [wl (rightW w)], ?_, _, _, rfl, rfl⟩
        simp only [pure_app, bad_app, bind_app, then_ok, then_exc, then_bad, lift_app, toRes_some, toRes_none, ite_app, slot_zero, slot_succ, thenF_nx, thenF_rt, thenF_bk, thenF_ct, isB_bl, retF_rt, retF_nx, itemsOf_tup, itemsOf_lst, itemsOf_fl, itemsOf_str, tyName_non, tyName_bl, tyName_int, tyName_str, tyName_tup, tyName_lst, tyName_fl, tyName_dk, tyName_dt, seqOf_tup, lenOf_tup, seqOf_lst, lenOf_lst, seqOf_fl, lenOf_fl, listOf_lst, listOf_fl, lstOf_lst, lenOf_str, lenD_1, allD_1, anyD_1, isi_eq, ltD_ii, ltD_ss, leD_ii, leD_ss, gtD_ii, gtD_ss, geD_ii, geD_ss, onI_ii, addD_ii, addD_ss, addD_tt, addD_ll, mulD_ii, mulD_si, mulD_li, ixD_si, ixD_tup, ixD_lst, ixD_fl, ixD_ob, intD_i, intD_b, absD_i, max2D_ii, min2D_ii, slD_s, slD_t, slD_l, intOf_i, joinD_1, upperD_0, reprBD_b, inD_eq, ninD_eq, eqD_eq, neD_eq, inB_sign, eqB_ss, eqB_ii, isD_n, isntD_n, tupleD_t, tupleD_l, listD_1, tyD_str, rng1_i, rng2_i, forM_nil, gSet_eq, bName_eq, wipeR_nil, wipeR_cons, obind_some, obind_none, omap_some, omap_none, kb_NoneType_int, kb_NoneType_bool, kb_NoneType_str, kb_NoneType_tuple, kb_NoneType_list, kb_NoneType_dict, kb_bool_int, kb_bool_bool, kb_bool_str, kb_bool_tuple, kb_bool_list, kb_bool_dict, kb_int_int, kb_int_bool, kb_int_str, kb_int_tuple, kb_int_list, kb_int_dict, kb_str_int, kb_str_bool, kb_str_str, kb_str_tuple, kb_str_list, kb_str_dict, kb_tuple_int, kb_tuple_bool, kb_tuple_str, kb_tuple_tuple, kb_tuple_list, kb_tuple_dict, kb_list_int, kb_list_bool, kb_list_str, kb_list_tuple, kb_list_list, kb_list_dict, kb_dict_int, kb_dict_bool, kb_dict_str, kb_dict_tuple, kb_dict_list, kb_dict_dict, seqS, ifS, retS, setS, dropS, skipS, asT, notT, andT, orT, ofT, andV, orV, notV, ifM, do2, opd, opd1, chain3, bltM, opl, consM, tupM, mkT, lstM, mkL, objMs, newL, alloc, fnM, methM, needT, oplm, sliceM, lcMM, oneM, valI, asgS, setIxS, forS, Bool.not_true, Bool.not_false, Bool.false_eq_true, if_false, if_true, reduceIte, List.set_cons_zero, List.set_cons_succ, decide_true, decide_false, Bool.true_and, Bool.false_and, Bool.and_true, Bool.and_false, Bool.true_or, Bool.false_or, Bool.or_true, Bool.or_false, sz_lit, disp1, keyOf_s, keyOf_i, pow59, pow15, pow39, pow38, pow590, decide_eq_true_eq, aT, or_true, beq_self_eq_true, true_or, Int.reduceNeg, Int.reducePow, Int.reduceLT, Int.reduceLE, Int.reduceToNat, Nat.reduceAdd, Nat.reduceLeDiff, Nat.reducePow, and_self, and_true, true_and, false_and, and_false, or_false, false_or, List.length_cons, List.length_nil, hr]
      obtain ⟨ρ2, S2, hin, a4', w, rfl, rfl⟩ := hin
      refine ⟨[some (.fl xs), some (.int (i : Nat)), none, some (.ob (S ++ g).length), a4', none], S ++ g ++ [wl w], ?_, _, _, _, g ++ [wl w], rfl, List.append_assoc _ _ _⟩
      simp only [pure_app, bad_app, bind_app, then_ok, then_exc, then_bad, lift_app, toRes_some, toRes_none, ite_app, slot_zero, slot_succ, thenF_nx, thenF_rt, thenF_bk, thenF_ct, isB_bl, retF_rt, retF_nx, itemsOf_tup, itemsOf_lst, itemsOf_fl, itemsOf_str, tyName_non, tyName_bl, tyName_int, tyName_str, tyName_tup, tyName_lst, tyName_fl, tyName_dk, tyName_dt, seqOf_tup, lenOf_tup, seqOf_lst, lenOf_lst, seqOf_fl, lenOf_fl, listOf_lst, listOf_fl, lstOf_lst, lenOf_str, lenD_1, allD_1, anyD_1, isi_eq, ltD_ii, ltD_ss, leD_ii, leD_ss, gtD_ii, gtD_ss, geD_ii, geD_ss, onI_ii, addD_ii, addD_ss, addD_tt, addD_ll, mulD_ii, mulD_si, mulD_li, ixD_si, ixD_tup, ixD_lst, ixD_fl, ixD_ob, intD_i, intD_b, absD_i, max2D_ii, min2D_ii, slD_s, slD_t, slD_l, intOf_i, joinD_1, upperD_0, reprBD_b, inD_eq, ninD_eq, eqD_eq, neD_eq, inB_sign, eqB_ss, eqB_ii, isD_n, isntD_n, tupleD_t, tupleD_l, listD_1, tyD_str, rng1_i, rng2_i, forM_nil, gSet_eq, bName_eq, wipeR_nil, wipeR_cons, obind_some, obind_none, omap_some, omap_none, kb_NoneType_int, kb_NoneType_bool, kb_NoneType_str, kb_NoneType_tuple, kb_NoneType_list, kb_NoneType_dict, kb_bool_int, kb_bool_bool, kb_bool_str, kb_bool_tuple, kb_bool_list, kb_bool_dict, kb_int_int, kb_int_bool, kb_int_str, kb_int_tuple, kb_int_list, kb_int_dict, kb_str_int, kb_str_bool, kb_str_str, kb_str_tuple, kb_str_list, kb_str_dict, kb_tuple_int, kb_tuple_bool, kb_tuple_str, kb_tuple_tuple, kb_tuple_list, kb_tuple_dict, kb_list_int, kb_list_bool, kb_list_str, kb_list_tuple, kb_list_list, kb_list_dict, kb_dict_int, kb_dict_bool, kb_dict_str, kb_dict_tuple, kb_dict_list, kb_dict_dict, seqS, ifS, retS, setS, dropS, skipS, asT, notT, andT, orT, ofT, andV, orV, notV, ifM, do2, opd, opd1, chain3, bltM, opl, consM, tupM, mkT, lstM, mkL, objMs, newL, alloc, fnM, methM, needT, oplm, sliceM, lcMM, oneM, valI, asgS, setIxS, forS, Bool.not_true, Bool.not_false, Bool.false_eq_true, if_false, if_true, reduceIte, List.set_cons_zero, List.set_cons_succ, decide_true, decide_false, Bool.true_and, Bool.false_and, Bool.and_true, Bool.and_false, Bool.true_or, Bool.false_or, Bool.or_true, Bool.or_false, sz_lit, disp1, keyOf_s, keyOf_i, pow59, pow15, pow39, pow38, pow590, decide_eq_true_eq, aT, or_true, beq_self_eq_true, true_or, Int.reduceNeg, Int.reducePow, Int.reduceLT, Int.reduceLE, Int.reduceToNat, Nat.reduceAdd, Nat.reduceLeDiff, Nat.reducePow, and_self, and_true, true_and, false_and, and_false, or_false, false_or, List.length_cons, List.length_nil, hw, hin]
      try rfl
    obtain ⟨ρ', S', hloop, a1, a3, a4, g, rfl, rfl⟩ := hloop
    simp only [den_law, pure_app, bad_app, bind_app, then_ok, then_exc, then_bad, lift_app, toRes_some, toRes_none, ite_app, slot_zero, slot_succ, thenF_nx, thenF_rt, thenF_bk, thenF_ct, isB_bl, retF_rt, retF_nx, itemsOf_tup, itemsOf_lst, itemsOf_fl, itemsOf_str, tyName_non, tyName_bl, tyName_int, tyName_str, tyName_tup, tyName_lst, tyName_fl, tyName_dk, tyName_dt, seqOf_tup, lenOf_tup, seqOf_lst, lenOf_lst, seqOf_fl, lenOf_fl, listOf_lst, listOf_fl, lstOf_lst, lenOf_str, lenD_1, allD_1, anyD_1, isi_eq, ltD_ii, ltD_ss, leD_ii, leD_ss, gtD_ii, gtD_ss, geD_ii, geD_ss, onI_ii, addD_ii, addD_ss, addD_tt, addD_ll, mulD_ii, mulD_si, mulD_li, ixD_si, ixD_tup, ixD_lst, ixD_fl, ixD_ob, intD_i, intD_b, absD_i, max2D_ii, min2D_ii, slD_s, slD_t, slD_l, intOf_i, joinD_1, upperD_0, reprBD_b, inD_eq, ninD_eq, eqD_eq, neD_eq, inB_sign, eqB_ss, eqB_ii, isD_n, isntD_n, tupleD_t, tupleD_l, listD_1, tyD_str, rng1_i, rng2_i, forM_nil, gSet_eq, bName_eq, wipeR_nil, wipeR_cons, obind_some, obind_none, omap_some, omap_none, kb_NoneType_int, kb_NoneType_bool, kb_NoneType_str, kb_NoneType_tuple, kb_NoneType_list, kb_NoneType_dict, kb_bool_int, kb_bool_bool, kb_bool_str, kb_bool_tuple, kb_bool_list, kb_bool_dict, kb_int_int, kb_int_bool, kb_int_str, kb_int_tuple, kb_int_list, kb_int_dict, kb_str_int, kb_str_bool, kb_str_str, kb_str_tuple, kb_str_list, kb_str_dict, kb_tuple_int, kb_tuple_bool, kb_tuple_str, kb_tuple_tuple, kb_tuple_list, kb_tuple_dict, kb_list_int, kb_list_bool, kb_list_str, kb_list_tuple, kb_list_list, kb_list_dict, kb_dict_int, kb_dict_bool, kb_dict_str, kb_dict_tuple, kb_dict_list, kb_dict_dict, seqS, ifS, retS, setS, dropS, skipS, asT, notT, andT, orT, ofT, andV, orV, notV, ifM, do2, opd, opd1, chain3, bltM, opl, consM, tupM, mkT, lstM, mkL, objMs, newL, alloc, fnM, methM, needT, oplm, sliceM, lcMM, oneM, valI, asgS, setIxS, forS, Bool.not_true, Bool.not_false, Bool.false_eq_true, if_false, if_true, reduceIte, List.set_cons_zero, List.set_cons_succ, decide_true, decide_false, Bool.true_and, Bool.false_and, Bool.and_true, Bool.and_false, Bool.true_or, Bool.false_or, Bool.or_true, Bool.or_false, sz_lit, disp1, keyOf_s, keyOf_i, pow59, pow15, pow39, pow38, pow590, decide_eq_true_eq, aT, or_true, beq_self_eq_true, true_or, Int.reduceNeg, Int.reducePow, Int.reduceLT, Int.reduceLE, Int.reduceToNat, Nat.reduceAdd, Nat.reduceLeDiff, Nat.reducePow, and_self, and_true, true_and, false_and, and_false, or_false, false_or, List.length_cons, List.length_nil, hk, j1, j2, jt, hloop, told_comp, told_eq]
    exact Le.drop (Nat.le_refl _) rfl hs
  · rw [if_neg hz]; exact Le.bad
theorem law_true (ns : List Int) (hl : ns.length ≤ 63) : F_law [.fl (ns.map D.int)] [] = .ok (.bl true) [] := by
  show (match intsOf (ns.map D.int) with | none => Res.bad | some ms => if (ns.map D.int).length ≤ sizeLine then Res.ok (D.bl true) [] else .bad) = _
  rw [intsOf_map]
  dsimp only
  rw [if_pos (by rw [List.length_map]; exact Nat.le_trans hl (by decide))]
end
theorem all_mk {l : PySem.W.OpenLaw} {w : World} {K : PySem.W.Frag} {h : Heap} {mg : Str → Option Value} {fa f0 f1 f2 f3 f4 f5 f6 : Addr} (X : K.In h) (G : h.Ns mainGlobals mg) (hfa : mg "law" = some (.ref fa))
    {od0 an0 od1 an1 od2 an2 od3 an3 od4 an4 od5 an5 od6 an6 : Option Addr} {sl0 sl1 sl2 sl3 sl4 sl5 sl6 : Array (Option Value)} {oc0 kV0 dc0 pm0 cd0 ct0 oc1 kV1 dc1 pm1 cd1 ct1 oc2 kV2 dc2 pm2 cd2 ct2 oc3 kV3 dc3 pm3 cd3 ct3 oc4 kV4 dc4 pm4 cd4 ct4 oc5 kV5 dc5 pm5 cd5 ct5 oc6 kV6 dc6 pm6 cd6 ct6 : Value} {t0 t1 : Tok}
    (a0 : PySem.W.nsIn K mainGlobals "is_name" = some (some (.ref f0))) (l0 : K.lookup f0 = some ⟨oc0, od0, .func (PySem.W.fnOf "is_name" "is_name" (defArgs s_is_name) (defBody s_is_name) (defScope s_is_name) .none kV0 dc0 pm0 an0 cd0 ct0), sl0⟩) (c0 : PySem.W.codeIn K cd0 "is_name" = true) (k0 : PySem.W.keepIn K (.ref f0) = true)
    (a1 : PySem.W.nsIn K mainGlobals "_law_well" = some (some (.ref f1))) (l1 : K.lookup f1 = some ⟨oc1, od1, .func (PySem.W.fnOf "_law_well" "_law_well" (defArgs s__law_well) (defBody s__law_well) (defScope s__law_well) .none kV1 dc1 pm1 an1 cd1 ct1), sl1⟩) (c1 : PySem.W.codeIn K cd1 "_law_well" = true) (k1 : PySem.W.keepIn K (.ref f1) = true)
    (a2 : PySem.W.nsIn K mainGlobals "_law_dip" = some (some (.ref f2))) (l2 : K.lookup f2 = some ⟨oc2, od2, .func (PySem.W.fnOf "_law_dip" "_law_dip" (defArgs s__law_dip) (defBody s__law_dip) (defScope s__law_dip) .none kV2 dc2 pm2 an2 cd2 ct2), sl2⟩) (c2 : PySem.W.codeIn K cd2 "_law_dip" = true) (k2 : PySem.W.keepIn K (.ref f2) = true)
    (a3 : PySem.W.nsIn K mainGlobals "_law_choose" = some (some (.ref f3))) (l3 : K.lookup f3 = some ⟨oc3, od3, .func (PySem.W.fnOf "_law_choose" "_law_choose" (defArgs s__law_choose) (defBody s__law_choose) (defScope s__law_choose) .none kV3 dc3 pm3 an3 cd3 ct3), sl3⟩) (c3 : PySem.W.codeIn K cd3 "_law_choose" = true) (k3 : PySem.W.keepIn K (.ref f3) = true)
    (a4 : PySem.W.nsIn K mainGlobals "_law_is_word" = some (some (.ref f4))) (l4 : K.lookup f4 = some ⟨oc4, od4, .func (PySem.W.fnOf "_law_is_word" "_law_is_word" (defArgs s__law_is_word) (defBody s__law_is_word) (defScope s__law_is_word) .none kV4 dc4 pm4 an4 cd4 ct4), sl4⟩) (c4 : PySem.W.codeIn K cd4 "_law_is_word" = true) (k4 : PySem.W.keepIn K (.ref f4) = true)
    (a5 : PySem.W.nsIn K mainGlobals "_law_right" = some (some (.ref f5))) (l5 : K.lookup f5 = some ⟨oc5, od5, .func (PySem.W.fnOf "_law_right" "_law_right" (defArgs s__law_right) (defBody s__law_right) (defScope s__law_right) .none kV5 dc5 pm5 an5 cd5 ct5), sl5⟩) (c5 : PySem.W.codeIn K cd5 "_law_right" = true) (k5 : PySem.W.keepIn K (.ref f5) = true)
    (a6 : PySem.W.nsIn K mainGlobals "law" = some (some (.ref f6))) (l6 : K.lookup f6 = some ⟨oc6, od6, .func (PySem.W.fnOf "law" "law" (defArgs s_law) (defBody s_law) (defScope s_law) .none kV6 dc6 pm6 an6 cd6 ct6), sl6⟩) (c6 : PySem.W.codeIn K cd6 "law" = true) (k6 : PySem.W.keepIn K (.ref f6) = true)
    (q0 : PySem.W.nsIn K mainGlobals "LETTERS" = some (some (.str "abcdefghijklmnopqrstuvwxyz" t0)))
    (q1 : PySem.W.nsIn K mainGlobals "MAX_LETTERS" = some (some (.int 8 t1)))
    (z0 : PySem.W.nsIn K mainGlobals "abs" = some none)
    (z1 : PySem.W.nsIn K mainGlobals "all" = some none)
    (z2 : PySem.W.nsIn K mainGlobals "int" = some none)
    (z3 : PySem.W.nsIn K mainGlobals "isinstance" = some none)
    (z4 : PySem.W.nsIn K mainGlobals "len" = some none)
    (z5 : PySem.W.nsIn K mainGlobals "max" = some none)
    (z6 : PySem.W.nsIn K mainGlobals "min" = some none)
    (z7 : PySem.W.nsIn K mainGlobals "range" = some none)
    (z8 : PySem.W.nsIn K mainGlobals "repr" = some none)
    (z9 : PySem.W.nsIn K mainGlobals "str" = some none) :
    ∃ fd : FuncData, (∀ (s : Shared) (v : Value), BindsTo s fd ⟨[v], []⟩ [("_law_script", v)]) ∧ ∀ base : Heap, K.In base → base.Ns mainGlobals mg → FnOk l.prog w K mg base (L2.CX l.prog w) 4 fa fd ["_law_script"] (spM K 1 F_law) := by
  cases hfa.symm.trans (PySem.W.mg_of X G a6)
  have T : Txt K mg ⟨f0, PySem.W.fnOf "is_name" "is_name" (defArgs s_is_name) (defBody s_is_name) (defScope s_is_name) .none kV0 dc0 pm0 an0 cd0 ct0, f1, PySem.W.fnOf "_law_well" "_law_well" (defArgs s__law_well) (defBody s__law_well) (defScope s__law_well) .none kV1 dc1 pm1 an1 cd1 ct1, f2, PySem.W.fnOf "_law_dip" "_law_dip" (defArgs s__law_dip) (defBody s__law_dip) (defScope s__law_dip) .none kV2 dc2 pm2 an2 cd2 ct2, f3, PySem.W.fnOf "_law_choose" "_law_choose" (defArgs s__law_choose) (defBody s__law_choose) (defScope s__law_choose) .none kV3 dc3 pm3 an3 cd3 ct3, f4, PySem.W.fnOf "_law_is_word" "_law_is_word" (defArgs s__law_is_word) (defBody s__law_is_word) (defScope s__law_is_word) .none kV4 dc4 pm4 an4 cd4 ct4, f5, PySem.W.fnOf "_law_right" "_law_right" (defArgs s__law_right) (defBody s__law_right) (defScope s__law_right) .none kV5 dc5 pm5 an5 cd5 ct5, fa, PySem.W.fnOf "law" "law" (defArgs s_law) (defBody s_law) (defScope s_law) .none kV6 dc6 pm6 an6 cd6 ct6, t0, t1⟩ := ⟨fun_mk (st := s_is_name) l0 c0 k0, PySem.W.mg_of X G a0, (fun_mk (st := s_is_name) l0 c0 k0).binds (ps := ["value"]) fun _ _ _ _ _ _ us hl => match us, hl with | [_], _ => rfl,
    fun_mk (st := s__law_well) l1 c1 k1, PySem.W.mg_of X G a1, (fun_mk (st := s__law_well) l1 c1 k1).binds (ps := ["_law_script", "_law_spot"]) fun _ _ _ _ _ _ us hl => match us, hl with | [_, _], _ => rfl,
    fun_mk (st := s__law_dip) l2 c2 k2, PySem.W.mg_of X G a2, (fun_mk (st := s__law_dip) l2 c2 k2).binds (ps := ["_law_well_here", "_law_size"]) fun _ _ _ _ _ _ us hl => match us, hl with | [_, _], _ => rfl,
    fun_mk (st := s__law_choose) l3 c3 k3, PySem.W.mg_of X G a3, (fun_mk (st := s__law_choose) l3 c3 k3).binds (ps := ["_law_well_here", "_law_items"]) fun _ _ _ _ _ _ us hl => match us, hl with | [_, _], _ => rfl,
    fun_mk (st := s__law_is_word) l4 c4 k4, PySem.W.mg_of X G a4, (fun_mk (st := s__law_is_word) l4 c4 k4).binds (ps := ["_law_value"]) fun _ _ _ _ _ _ us hl => match us, hl with | [_], _ => rfl,
    fun_mk (st := s__law_right) l5 c5 k5, PySem.W.mg_of X G a5, (fun_mk (st := s__law_right) l5 c5 k5).binds (ps := ["_law_well_here"]) fun _ _ _ _ _ _ us hl => match us, hl with | [_], _ => rfl,
    fun_mk (st := s_law) l6 c6 k6, PySem.W.mg_of X G a6, (fun_mk (st := s_law) l6 c6 k6).binds (ps := ["_law_script"]) fun _ _ _ _ _ _ us hl => match us, hl with | [_], _ => rfl,
    PySem.W.mg_none_of X G z0,
    PySem.W.mg_none_of X G z1,
    PySem.W.mg_none_of X G z2,
    PySem.W.mg_none_of X G z3,
    PySem.W.mg_none_of X G z4,
    PySem.W.mg_none_of X G z5,
    PySem.W.mg_none_of X G z6,
    PySem.W.mg_none_of X G z7,
    PySem.W.mg_none_of X G z8,
    PySem.W.mg_none_of X G z9,
    PySem.W.mg_of X G q0,
    PySem.W.mg_of X G q1⟩
  exact ⟨PySem.W.fnOf "law" "law" (defArgs s_law) (defBody s_law) (defScope s_law) .none kV6 dc6 pm6 an6 cd6 ct6, fun s v => .of_eq rfl, fun base _ _ => ok_law T⟩
theorem walk {l : PySem.W.OpenLaw} {q : Program} {loose : List Str} {XP : (Str → Option Value) → Heap → Prop} {YP : World → Heap → Prop} {d : DefRec} {K : Params → PySem.W.Frag} (hn : l.most = some 63) (hdf : d.params.defaults = [])
    (hY : ∀ (w : World) (h : Heap), YP w h → (K w.params).In h)
    (F : ∀ (w : World) (mg : Str → Option Value) (fa : Addr) (h : Heap), (K w.params).In h → h.Ns mainGlobals mg → mg d.name = some (.ref fa) →
      ∃ fd : FuncData, (∀ (s : Shared) (u : Value), BindsTo s fd ⟨[u], []⟩ [("_law_script", u)]) ∧ ∀ base : Heap, (K w.params).In base → base.Ns mainGlobals mg → FnOk l.prog w (K w.params) mg base (L2.CX l.prog w) 4 fa fd ["_law_script"] (spM (K w.params) 1 F_law)) :
    PySem.W.WalkO q loose XP YP l.row.toRowW d [] (fun f vs => PySem.call f vs) :=
  L2.walk_of (n := 63) (k := 4) (x := "_law_script") (CX := fun w => L2.CX l.prog w) (sp := fun w => spM (K w.params) 1 F_law) hn (by decide) hdf ⟨rfl, by decide, by decide⟩ hY F (fun _ _ _ ns hl _ hS => law_entry hl hS (law_true ns hl)) noFall
end PD
open PySem PySem.W PyProof.Rows
set_option maxRecDepth 100000 in
set_option maxHeartbeats 0 in
theorem PySem.Challenge.cw_answeredabove_k01_names_holds : PySem.Challenge.rw_answeredabove_k01_names.Holds := by
  w_on; o_law; k_head; (case hw => w_witness2)
  k_fill
  refine PD.walk (l := PySem.Challenge.rw_answeredabove_k01_names) rfl rfl (fun w h Y => PySem.W.kIn_of Y) ?F
  case F =>
    intro w mg fa h KX G hmg
    refine' PD.all_mk KX G hmg ?a0 ?l0 ?c0 ?k0 ?a1 ?l1 ?c1 ?k1 ?a2 ?l2 ?c2 ?k2 ?a3 ?l3 ?c3 ?k3 ?a4 ?l4 ?c4 ?k4 ?a5 ?l5 ?c5 ?k5 ?a6 ?l6 ?c6 ?k6 ?q0 ?q1 ?z0 ?z1 ?z2 ?z3 ?z4 ?z5 ?z6 ?z7 ?z8 ?z9
    (case a0 => k_is)
    (case l0 => k_is)
    (case c0 => k_is)
    (case k0 => k_is)
    (case a1 => k_is)
    (case l1 => k_is)
    (case c1 => k_is)
    (case k1 => k_is)
    (case a2 => k_is)
    (case l2 => k_is)
    (case c2 => k_is)
    (case k2 => k_is)
    (case a3 => k_is)
    (case l3 => k_is)
    (case c3 => k_is)
    (case k3 => k_is)
    (case a4 => k_is)
    (case l4 => k_is)
    (case c4 => k_is)
    (case k4 => k_is)
    (case a5 => k_is)
    (case l5 => k_is)
    (case c5 => k_is)
    (case k5 => k_is)
    (case a6 => k_is)
    (case l6 => k_is)
    (case c6 => k_is)
    (case k6 => k_is)
    (case q0 => k_is)
    (case q1 => k_is)
    (case z0 => k_is)
    (case z1 => k_is)
    (case z2 => k_is)
    (case z3 => k_is)
    (case z4 => k_is)
    (case z5 => k_is)
    (case z6 => k_is)
    (case z7 => k_is)
    (case z8 => k_is)
    (case z9 => k_is)

#print axioms PySem.Challenge.cw_answeredabove_k01_names_holds
