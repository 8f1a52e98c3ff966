import PyProof.Rows.All
import Wide.All
import OpenK.AllK
import Wide.FinOn
import HandS.ForMost
import HandS.ForExc
import HandS.Walk
import HandS.Star
import HandS.IsInst
import HandS.Zip
import HandS.Deep
import HandS.TupAny
import HandS.TupMul
import HandS.ExcSuper
import HandS.Lambda
import HandS.Text
import HandS.ClsMeth
import HandS.Property
import HandS.CallLocal
import HandS.NoneIn
import HandS.WordsDict
import HandS.TupSets
import HandS.SetFor
import HandS.Strs
import HandS.DictComp
import PyProof.RulesMatchSeq
import PyProof.Rows.MatchSeqLen
import HandS.Conv
import HandS.Head0
import HandS.Head1
import HandS.Head2
import HandS.HeadEnd
import HandS.HeadHook1
import HandS.HeadHook2
import HandS.HeadNt
import KE.KExcSuper
import KE.KExcInit
import HandS.ExcIs
import HandS.ExcField
import HandS.TryMany
import HandS.ExcInit
import PyProof.CallFns
import PyProof.ReprRoads
import HandS.EndTab
import HandS.ExcValue
import PyProof.P3In
import PyProof.EqKinds
import KE.KEqNest
import HandS.OwnEq
import HandS.FStr
import PyProof.MeetsIn
import PyProof.NeKinds
import HandS.TupLe
import KE.GoesEnum
import HandS.Style
import HandS.ExcOwn
import PyProof.SeqIndex
import HandS.Dict
import KE.KOpsOwn
import KE.KDictZip
import HandS.Zip0
import PyProof.ListNew
import PySem.Challenge.RW_answeredabove_k00_errors_and_what_they_k
set_option Elab.async false
set_option linter.all false
set_option maxRecDepth 100000
namespace PD
open PySem PySem.Spec PyProof.Rows L2
abbrev Frag := PySem.W.Frag
/-- data: what never changes is a tree; ob n is the n-th thing of the store -/
inductive D where
  | non | bl (b : Bool) | int (i : Int) | str (x : Str) | ty (n : String) | ref (a : Addr)
  | tup (xs : List D) | tz (xs : List D) | lst (xs : List D) | fl (xs : List D) | dk (ks : List Key) (vs : List D) | dt (ks : List (List Key)) (vs : List D)
  | ins (C : Addr) (ns : List Str) (vs : List D) | ob (n : Nat)
  /-- an exception that nobody raises -/
  | xo (C : Addr) (ns : List Str) (vs : List D)
  /-- a lambda at f, its code object at c, what its maker's names held -/
  | lam (f c : Addr) (q : Str) (us : List V) (vs : List D)
  deriving Inhabited
/-- things that change -/
inductive MO where
  | ml (xs : List D) | mk (ks : List Key) (vs : List D) | mt (ks : List (List Key)) (vs : List D) | mi (C : Addr) (ns : List Str) (vs : List D)
  | tb (P : Addr) (q : Str)
  deriving Inhabited
inductive Res (α : Type) where
  | ok (a : α) (S : List MO)
  | exc (C : Value) (fs : Option (List Str × List D)) (S : List MO)
  | bad
def M (α : Type) := List MO → Res α
def M.pure {α : Type} (a : α) : M α := fun S => .ok a S
def Res.andThen {α β : Type} (r : Res α) (f : α → M β) : Res β := match r with
  | .ok a S1 => f a S1
  | .exc C fs S1 => .exc C fs S1
  | .bad => .bad
def M.bind {α β : Type} (m : M α) (f : α → M β) : M β := fun S => (m S).andThen f
instance : Monad M where
  pure := M.pure
  bind := M.bind
def bad {α : Type} : M α := fun _ => .bad
theorem bind_app {α β : Type} (m : M α) (f : α → M β) (S : List MO) : (m >>= f) S = (m S).andThen f := (rfl)
theorem bind_assoc' {α β γ : Type} (m : M α) (f : α → M β) (g : β → M γ) : (m >>= f) >>= g = m >>= fun a => f a >>= g := by
  funext S; simp only [bind_app]; cases m S <;> rfl
theorem bind_pure' {α : Type} (m : M α) : (m >>= fun a => (pure a : M α)) = m := by
  funext S; simp only [bind_app]; cases m S <;> rfl
instance : LawfulMonad M := LawfulMonad.mk' M (fun x => bind_pure' x) (fun _ _ => rfl) (fun x f g => bind_assoc' x f g)
/-- a state of the world: where the store's things stand, what is settled, the store, the abstract heap -/
structure Wr where
  ι : Nat → Addr
  B : Hp
  S : List MO
  H : Hp
/-- an exception object of the class cls, its dict at d -/
def XOb (cls : Value) (d : Option Addr) (a : Addr) : HO := .ext fun h => ∃ (oe : Obj) (vs : Array Value), h.get? a = some oe ∧ Zc cls d oe ∧ oe.data = .fields vs
mutual
inductive Dat (K : Frag) (ι : Nat → Addr) (N : Nat) (B : Hp) : V → D → Prop
  | non : Dat K ι N B .non .non
  | bl (b : Bool) : Dat K ι N B (.bl b) (.bl b)
  | int (i : Int) : Dat K ι N B (.int i) (.int i)
  | str (x : Str) (h : x.length ≤ sizeLine) : Dat K ι N B (.str x) (.str x)
  | ty (n : String) : Dat K ι N B (.ty n) (.ty n)
  | ref (a : Addr) : Dat K ι N B (.ref a) (.ref a)
  | tup {a : Addr} {vs : List V} {ds : List D} : SqT K B a vs → ds.length ≤ sizeLine → Dats K ι N B vs ds → Dat K ι N B (.ref a) (.tup ds)
  | tz {a : Addr} {vs : List V} {ds : List D} {o : Obj} : B a = some (.frz o (.tup vs)) → o.dict = none → ds.length ≤ sizeLine → Dats K ι N B vs ds → Dat K ι N B (.ref a) (.tz ds)
  | lst {a : Addr} {vs : List V} {ds : List D} : B a = some (.lst vs) → ds.length ≤ sizeLine → Dats K ι N B vs ds → Dat K ι N B (.ref a) (.lst ds)
  | fl {a : Addr} {vs : List V} {ds : List D} : SqL K B a vs → ds.length ≤ sizeLine → Dats K ι N B vs ds → Dat K ι N B (.ref a) (.fl ds)
  | dk {a : Addr} {ks : List Key} {vs : List V} {ds : List D} : B a = some (.dK (ks.zip vs)) → ks.length = vs.length → ds.length ≤ sizeLine → Dats K ι N B vs ds → Dat K ι N B (.ref a) (.dk ks ds)
  | dt {a : Addr} {ks : List (List Key)} {vs : List V} {ds : List D} : B a = some (.dT (ks.zip vs)) → ks.length = vs.length → ds.length ≤ sizeLine → Dats K ι N B vs ds → Dat K ι N B (.ref a) (.dt ks ds)
  | ins {a C dx : Addr} {ns : List Str} {vs : List V} {ds : List D} : B a = some (.ins C dx (ns.zip vs)) → ns.length = vs.length → Dats K ι N B vs ds → Dat K ι N B (.ref a) (.ins C ns ds)
  | ob (n : Nat) (h : n < N) : Dat K ι N B (.ref (ι n)) (.ob n)
  | xo {a C : Addr} {dd : Option Addr} {ns : List Str} {vs : List V} {ds : List D} : B a = some (XOb (.ref C) dd a) → (∀ dx, dd = some dx → B dx = some (.xd (ns.zip vs))) → (dd = none → ns = []) → ns.length = vs.length → Dats K ι N B vs ds → Dat K ι N B (.ref a) (.xo C ns ds)
  | lam {f c : Addr} {q : Str} {us : List V} {ds : List D} : B c = some (LamX.CodeO c q) → Dats K ι N B us ds → Dat K ι N B (.ref f) (.lam f c q us ds)
inductive Dats (K : Frag) (ι : Nat → Addr) (N : Nat) (B : Hp) : List V → List D → Prop
  | nil : Dats K ι N B [] []
  | cons {v : V} {vs : List V} {d : D} {ds : List D} : Dat K ι N B v d → Dats K ι N B vs ds → Dats K ι N B (v :: vs) (d :: ds)
end
abbrev Dt (K : Frag) (w : Wr) : V → D → Prop := Dat K w.ι w.S.length w.B
abbrev Dts (K : Frag) (w : Wr) : List V → List D → Prop := Dats K w.ι w.S.length w.B
def MOk (K : Frag) (w : Wr) (a : Addr) : MO → Prop
  | .ml ds => ∃ vs, w.H a = some (.lst vs) ∧ Dts K w vs ds
  | .mk ks ds => ∃ vs, w.H a = some (.dK (ks.zip vs)) ∧ ks.length = vs.length ∧ Dts K w vs ds
  | .mt ks ds => ∃ vs, w.H a = some (.dT (ks.zip vs)) ∧ ks.length = vs.length ∧ Dts K w vs ds
  | .mi C ns ds => ∃ dx vs, w.H a = some (.ins C dx (ns.zip vs)) ∧ ns.length = vs.length ∧ Dts K w vs ds
  | .tb P q => ∃ ps : Array Value, w.H a = some (.tbl ps) ∧ a = P ∧ TriplesOk ps.toList ∧ ∀ (pos : Pos) (cv : Value), codeAmong pos ps.toList = some cv → ∃ c, cv = .ref c ∧ w.B c = some (LamX.CodeO c q)
structure Wd (K : Frag) (w : Wr) : Prop where
  fz : ∀ a o, w.B a = some o → w.H a = some o
  sp : ∀ n, n < w.S.length → w.B (w.ι n) = none
  ob : ∀ n o, w.S[n]? = some o → MOk K w (w.ι n) o
  inj : ∀ n m, n < w.S.length → m < w.S.length → w.ι n = w.ι m → n = m
/-- what lies between two states -/
structure Ex (w w' : Wr) : Prop where
  le : w.S.length ≤ w'.S.length
  io : ∀ n, n < w.S.length → w'.ι n = w.ι n
  fz : ∀ a o, w.B a = some o → w'.B a = some o
  nw : ∀ a o, w'.B a = some o → w.B a = some o ∨ w.H a = none
  ni : ∀ n, w.S.length ≤ n → n < w'.S.length → w.H (w'.ι n) = none
  kp : ∀ a o, w.H a = some o → (∀ n, n < w.S.length → a ≠ w.ι n) → w'.H a = some o
section
variable {K : Frag} {ι ι' : Nat → Addr} {N N' : Nat} {B B' : Hp} {w w' w'' : Wr}
theorem SqT.same {H H' : Hp} {a : Addr} {xs : List V} (e : ∀ b o, H b = some o → H' b = some o) (h : SqT K H a xs) : SqT K H' a xs := by
  rcases h with (h | ⟨o, h⟩) | h
  · exact .inl (.inl (e _ _ h))
  · exact .inl (.inr ⟨o, e _ _ h⟩)
  · exact .inr h
theorem SqL.same {H H' : Hp} {a : Addr} {xs : List V} (e : ∀ b o, H b = some o → H' b = some o) (h : SqL K H a xs) : SqL K H' a xs := by
  rcases h with (h | ⟨o, h⟩) | h
  · exact .inl (.inl (e _ _ h))
  · exact .inl (.inr ⟨o, e _ _ h⟩)
  · exact .inr h
theorem Rd.same {H H' : Hp} {a : Addr} {u : HO} (e : ∀ b o, H b = some o → H' b = some o) (h : Rd H a u) : Rd H' a u := by
  rcases h with h | ⟨o, h⟩
  · exact .inl (e _ _ h)
  · exact .inr ⟨o, e _ _ h⟩
mutual
theorem Dat.mono (hN : N ≤ N') (hi : ∀ n, n < N → ι' n = ι n) (hB : ∀ a o, B a = some o → B' a = some o) : ∀ {v : V} {d : D}, Dat K ι N B v d → Dat K ι' N' B' v d
  | _, _, .non => .non
  | _, _, .bl b => .bl b
  | _, _, .int i => .int i
  | _, _, .str x h => .str x h
  | _, _, .ty n => .ty n
  | _, _, .ref a => .ref a
  | _, _, .tup q l t => .tup (SqT.same hB q) l (Dats.mono hN hi hB t)
  | _, _, .tz q z l t => .tz (hB _ _ q) z l (Dats.mono hN hi hB t)
  | _, _, .lst q l t => .lst (hB _ _ q) l (Dats.mono hN hi hB t)
  | _, _, .fl q l t => .fl (SqL.same hB q) l (Dats.mono hN hi hB t)
  | _, _, .dk q l z t => .dk (hB _ _ q) l z (Dats.mono hN hi hB t)
  | _, _, .dt q l z t => .dt (hB _ _ q) l z (Dats.mono hN hi hB t)
  | _, _, .ins q l t => .ins (hB _ _ q) l (Dats.mono hN hi hB t)
  | _, _, .ob n h => by rw [← hi n h]; exact .ob n (Nat.lt_of_lt_of_le h hN)
  | _, _, .lam h t => .lam (hB _ _ h) (Dats.mono hN hi hB t)
  | _, _, .xo q x y l t => .xo (hB _ _ q) (fun dx e => hB _ _ (x dx e)) y l (Dats.mono hN hi hB t)
theorem Dats.mono (hN : N ≤ N') (hi : ∀ n, n < N → ι' n = ι n) (hB : ∀ a o, B a = some o → B' a = some o) : ∀ {vs : List V} {ds : List D}, Dats K ι N B vs ds → Dats K ι' N' B' vs ds
  | _, _, .nil => .nil
  | _, _, .cons h t => .cons (Dat.mono hN hi hB h) (Dats.mono hN hi hB t)
end
theorem Dats.length : ∀ {vs : List V} {ds : List D}, Dats K ι N B vs ds → vs.length = ds.length
  | _, _, .nil => rfl
  | _, _, .cons _ t => congrArg (· + 1) (Dats.length t)
theorem MOk.there {a : Addr} {o : MO} (h : MOk K w a o) : ∃ u, w.H a = some u := by
  cases o with
  | ml _ => obtain ⟨_, e, _⟩ := h; exact ⟨_, e⟩
  | mk _ _ => obtain ⟨_, e, _⟩ := h; exact ⟨_, e⟩
  | mt _ _ => obtain ⟨_, e, _⟩ := h; exact ⟨_, e⟩
  | mi _ _ _ => obtain ⟨_, _, e, _⟩ := h; exact ⟨_, e⟩
  | tb _ _ => obtain ⟨_, e, _⟩ := h; exact ⟨_, e⟩
theorem Wd.there (h : Wd K w) {n : Nat} (hn : n < w.S.length) : ∃ u, w.H (w.ι n) = some u :=
  (h.ob n w.S[n] (List.getElem?_eq_getElem hn)).there
theorem Ex.trans (d : Wd K w') (a : Ex w w') (b : Ex w' w'') : Ex w w'' := by
  have old : ∀ x o, w.H x = some o → (∀ n, n < w.S.length → x ≠ w.ι n) → ∀ n, n < w'.S.length → x ≠ w'.ι n := fun x o h hn n hl z => by
    by_cases hc : n < w.S.length
    · rw [a.io n hc] at z; exact hn n hc z
    · have := a.ni n (Nat.not_lt.mp hc) hl
      rw [← z, h] at this; cases this
  -- an address that is none in w' is none in w, unless it is the store's
  refine ⟨Nat.le_trans a.le b.le, fun n h => (b.io n (Nat.lt_of_lt_of_le h a.le)).trans (a.io n h), fun x o h => b.fz x o (a.fz x o h), fun x o h => ?_, fun n h1 h2 => ?_, fun x o h hn => b.kp x o (a.kp x o h hn) (old x o h hn)⟩
  · rcases b.nw x o h with q | q
    · exact a.nw x o q
    · cases e : w.H x with
      | none => exact .inr rfl
      | some u =>
        by_cases hn : ∀ n, n < w.S.length → x ≠ w.ι n
        · rw [a.kp x u e hn] at q; cases q
        · have ⟨n, hl, z⟩ : ∃ n, n < w.S.length ∧ x = w.ι n := by
            apply Classical.byContradiction
            intro hh
            exact hn fun n hl z => hh ⟨n, hl, z⟩
          obtain ⟨u', e'⟩ := d.there (Nat.lt_of_lt_of_le hl a.le)
          rw [a.io n hl, ← z, q] at e'; cases e'
  · by_cases hc : n < w'.S.length
    · rw [b.io n hc]; exact a.ni n h1 hc
    · have q := b.ni n (Nat.not_lt.mp hc) h2
      cases e : w.H (w''.ι n) with
      | none => rfl
      | some u =>
        by_cases hn : ∀ m, m < w.S.length → w''.ι n ≠ w.ι m
        · rw [a.kp _ u e hn] at q; cases q
        · have ⟨m, hl, z⟩ : ∃ m, m < w.S.length ∧ w''.ι n = w.ι m := by
            apply Classical.byContradiction
            intro hh
            exact hn fun m hl z => hh ⟨m, hl, z⟩
          obtain ⟨u', e'⟩ := d.there (Nat.lt_of_lt_of_le hl a.le)
          rw [a.io m hl, ← z, q] at e'; cases e'
theorem Dt.ex (e : Ex w w') {v : V} {d : D} (h : Dt K w v d) : Dt K w' v d := Dat.mono e.le e.io e.fz h
theorem Dts.ex (e : Ex w w') {vs : List V} {ds : List D} (h : Dts K w vs ds) : Dts K w' vs ds := Dats.mono e.le e.io e.fz h
end
/-- the slots of a frame -/
abbrev Rho := List (Option D)
structure Lo (K : Frag) (w : Wr) (σ : L2.St) (ρ : Rho) : Prop where
  len : σ.length = ρ.length
  sl : ∀ (i : Nat) (d : D), ρ[i]? = some (some d) → ∃ v, σ[i]? = some (some v) ∧ Dt K w v d
theorem Lo.ex {K : Frag} {w w' : Wr} {σ : L2.St} {ρ : Rho} (l : Lo K w σ ρ) (e : Ex w w') : Lo K w' σ ρ :=
  ⟨l.len, fun i d h => let ⟨v, a, b⟩ := l.sl i d h; ⟨v, a, Dt.ex e b⟩⟩
/-- an exception's own dict -/
def XDt (K : Frag) (w : Wr) (dd : Option Addr) : Option (List Str × List D) → Prop
  | none => dd = none
  | some (ns, ds) => ∃ a vs, dd = some a ∧ w.H a = some (.xd (ns.zip vs)) ∧ ns.length = vs.length ∧ Dts K w vs ds
/-- what is wanted behind: k of the result and the state -/
def Pst {α : Type} (K : Frag) (W : XK) (w : Wr) (r : Res α) (k : α → Wr → Prop) : Prop :=
  match r with
  | .ok a S' => ∀ w', w'.S = S' → Ex w w' → Wd K w' → k a w'
  | .exc C fs S' => ∀ w' dd, w'.S = S' → Ex w w' → Wd K w' → XDt K w' dd fs → W C dd w'.H
  | .bad => False
section
variable {K : Frag} {W : XK} {w w' : Wr} {α β : Type}
theorem Pst.ok {a : α} {k : α → Wr → Prop} (h : ∀ w', w'.S = w.S → Ex w w' → Wd K w' → k a w') : Pst K W w ((pure a : M α) w.S) k := h
/-- from a later state -/
theorem Pst.ex {r : Res α} {k : α → Wr → Prop} (d : Wd K w') (e : Ex w w') (h : Pst K W w r k) : Pst K W w' r k := by
  cases r with
  | ok a S => exact fun w2 e2 x2 d2 => h w2 e2 (e.trans d x2) d2
  | exc C fs S => exact fun w2 dd e2 x2 d2 => h w2 dd e2 (e.trans d x2) d2
  | bad => exact h
end
section
def kE (K : Frag) (Q : VK) : D → Wr → Prop := fun d w => ∀ v, Dt K w v d → Q v w.H
end
def slot (ρ : Rho) (i : Nat) : Option D := (ρ[i]?).getD none
inductive Fl where
  | nx (ρ : Rho) | rt (d : D) | bk (ρ : Rho) | ct (ρ : Rho)
mutual
def D.cl (N : Nat) : D → Bool
  | .tup xs => D.clAll N xs
  | .tz xs => D.clAll N xs
  | .lst xs => D.clAll N xs
  | .fl xs => D.clAll N xs
  | .dk _ vs => D.clAll N vs
  | .dt _ vs => D.clAll N vs
  | .ins _ _ vs => D.clAll N vs
  | .ob n => decide (n < N)
  | .lam _ _ _ _ vs => D.clAll N vs
  | .xo _ _ vs => D.clAll N vs
  | _ => true
def D.clAll (N : Nat) : List D → Bool
  | [] => true
  | d :: ds => D.cl N d && D.clAll N ds
end
def MO.cl (N : Nat) : MO → Bool
  | .ml xs => D.clAll N xs
  | .mk _ vs => D.clAll N vs
  | .mt _ vs => D.clAll N vs
  | .mi _ _ vs => D.clAll N vs
  | .tb _ _ => true
mutual
theorem Dat.cl {K : Frag} {ι : Nat → Addr} {N N' : Nat} {B : Hp} : ∀ {v : V} {d : D}, Dat K ι N' B v d → d.cl N = true → Dat K ι N B v d
  | _, _, .non, _ => .non
  | _, _, .bl b, _ => .bl b
  | _, _, .int i, _ => .int i
  | _, _, .str x h, _ => .str x h
  | _, _, .ty n, _ => .ty n
  | _, _, .ref a, _ => .ref a
  | _, _, .tup q l t, c => .tup q l (Dats.cl t (by simpa [D.cl] using c))
  | _, _, .tz q z l t, c => .tz q z l (Dats.cl t (by simpa [D.cl] using c))
  | _, _, .lst q l t, c => .lst q l (Dats.cl t (by simpa [D.cl] using c))
  | _, _, .fl q l t, c => .fl q l (Dats.cl t (by simpa [D.cl] using c))
  | _, _, .dk q l z t, c => .dk q l z (Dats.cl t (by simpa [D.cl] using c))
  | _, _, .dt q l z t, c => .dt q l z (Dats.cl t (by simpa [D.cl] using c))
  | _, _, .ins q l t, c => .ins q l (Dats.cl t (by simpa [D.cl] using c))
  | _, _, .ob n _, c => .ob n (by simpa [D.cl] using c)
  | _, _, .lam h t, c => .lam h (Dats.cl t (by simpa [D.cl] using c))
  | _, _, .xo q x y l t, c => .xo q x y l (Dats.cl t (by simpa [D.cl] using c))
theorem Dats.cl {K : Frag} {ι : Nat → Addr} {N N' : Nat} {B : Hp} : ∀ {vs : List V} {ds : List D}, Dats K ι N' B vs ds → D.clAll N ds = true → Dats K ι N B vs ds
  | _, _, .nil, _ => .nil
  | _, _, .cons h t, c => by
    simp only [D.clAll, Bool.and_eq_true] at c
    exact .cons (Dat.cl h c.1) (Dats.cl t c.2)
end
mutual
/-- sizes as the machine lets them be -/
def D.fit : D → Bool
  | .str x => decide (x.length ≤ sizeLine)
  | .tup xs => decide (xs.length ≤ sizeLine) && D.fitAll xs
  | .tz xs => decide (xs.length ≤ sizeLine) && D.fitAll xs
  | .lst xs => decide (xs.length ≤ sizeLine) && D.fitAll xs
  | .fl xs => decide (xs.length ≤ sizeLine) && D.fitAll xs
  | .dk _ vs => decide (vs.length ≤ sizeLine) && D.fitAll vs
  | .dt _ vs => decide (vs.length ≤ sizeLine) && D.fitAll vs
  | .ins _ _ vs => D.fitAll vs
  | .lam _ _ _ _ vs => D.fitAll vs
  | .xo _ _ vs => D.fitAll vs
  | _ => true
def D.fitAll : List D → Bool
  | [] => true
  | d :: ds => D.fit d && D.fitAll ds
end
def SCl (S : List MO) : Prop := ∀ (n : Nat) (o : MO), S[n]? = some o → o.cl S.length = true
/-- r promises no more than r' -/
structure Le (n : Nat) (r r' : Res D) : Prop where
  go : ∀ {K : Frag} {W : XK} {w : Wr} {Q : VK}, w.S.length = n → Pst K W w r (kE K Q) → Pst K W w r' (kE K Q)
theorem Le.bad {n : Nat} {r : Res D} : Le n .bad r := ⟨fun _ h => h.elim⟩
theorem Le.trans {n : Nat} {r r' r'' : Res D} (h : Le n r r') (g : Le n r' r'') : Le n r r'' := ⟨fun e q => g.go e (h.go e q)⟩
theorem Pst.le {K : Frag} {W : XK} {w : Wr} {r r' : Res D} {Q : VK} (h : Pst K W w r (kE K Q)) (l : Le w.S.length r r') : Pst K W w r' (kE K Q) := l.go rfl h
mutual
inductive Frz (N : Nat) (g : List MO) : D → D → Prop
  | base {d : D} : d.cl N = true → Frz N g d d
  | ml {i : Nat} {xs ys : List D} : g[i]? = some (.ml xs) → ys.length ≤ sizeLine → Frzs N g xs ys → Frz N g (.ob (N + i)) (.lst ys)
  | mk {i : Nat} {ks : List Key} {xs ys : List D} : g[i]? = some (.mk ks xs) → ys.length ≤ sizeLine → Frzs N g xs ys → Frz N g (.ob (N + i)) (.dk ks ys)
  | mt {i : Nat} {ks : List (List Key)} {xs ys : List D} : g[i]? = some (.mt ks xs) → ys.length ≤ sizeLine → Frzs N g xs ys → Frz N g (.ob (N + i)) (.dt ks ys)
  | mi {i : Nat} {C : Addr} {ns : List Str} {xs ys : List D} : g[i]? = some (.mi C ns xs) → Frzs N g xs ys → Frz N g (.ob (N + i)) (.ins C ns ys)
  | tup {xs ys : List D} : Frzs N g xs ys → Frz N g (.tup xs) (.tup ys)
  | tz {xs ys : List D} : Frzs N g xs ys → Frz N g (.tz xs) (.tz ys)
  | lst {xs ys : List D} : Frzs N g xs ys → Frz N g (.lst xs) (.lst ys)
  | fl {xs ys : List D} : Frzs N g xs ys → Frz N g (.fl xs) (.fl ys)
  | dk {ks : List Key} {xs ys : List D} : Frzs N g xs ys → Frz N g (.dk ks xs) (.dk ks ys)
  | dt {ks : List (List Key)} {xs ys : List D} : Frzs N g xs ys → Frz N g (.dt ks xs) (.dt ks ys)
  | ins {C : Addr} {ns : List Str} {xs ys : List D} : Frzs N g xs ys → Frz N g (.ins C ns xs) (.ins C ns ys)
inductive Frzs (N : Nat) (g : List MO) : List D → List D → Prop
  | nil : Frzs N g [] []
  | cons {d e : D} {ds es : List D} : Frz N g d e → Frzs N g ds es → Frzs N g (d :: ds) (e :: es)
end
theorem Frzs.all {N : Nat} {g : List MO} : ∀ {ds : List D}, D.clAll N ds = true → Frzs N g ds ds
  | [], _ => .nil
  | d :: ds, c => by
    simp only [D.clAll, Bool.and_eq_true] at c
    exact .cons (.base c.1) (Frzs.all c.2)
section
variable {K : Frag} {ι : Nat → Addr} {N M : Nat} {B B2 H : Hp} {g : List MO}
theorem Frzs.length : ∀ {ds es : List D}, Frzs N g ds es → ds.length = es.length
  | _, _, .nil => rfl
  | _, _, .cons _ t => congrArg (· + 1) (Frzs.length t)
end
mutual
/-- data through and through, at most n deep -/
def D.data : Nat → D → Bool
  | _, .non => true
  | _, .bl _ => true
  | _, .int _ => true
  | _, .str _ => true
  | n + 1, .tup xs => D.dataAll n xs
  | n + 1, .lst xs => D.dataAll n xs
  | n + 1, .fl xs => D.dataAll n xs
  | _, _ => false
def D.dataAll : Nat → List D → Bool
  | _, [] => true
  | n, d :: ds => D.data n d && D.dataAll n ds
end
mutual
/-- == of data -/
def eqG : D → D → Bool
  | .non, .non => true
  | .bl a, .bl b => a == b
  | .bl a, .int j => (if a then 1 else 0) == j
  | .int i, .bl b => i == (if b then 1 else 0)
  | .int i, .int j => i == j
  | .str x, .str y => x == y
  | .tup xs, .tup ys => eqGs xs ys
  | .lst xs, .lst ys => eqGs xs ys
  | .lst xs, .fl ys => eqGs xs ys
  | .fl xs, .lst ys => eqGs xs ys
  | .fl xs, .fl ys => eqGs xs ys
  | _, _ => false
def eqGs : List D → List D → Bool
  | [], [] => true
  | x :: xs, y :: ys => eqG x y && eqGs xs ys
  | _, _ => false
end
mutual
inductive Rdv (K : Frag) (H : Hp) : V → D → Prop
  | non : Rdv K H .non .non
  | bl (b : Bool) : Rdv K H (.bl b) (.bl b)
  | int (i : Int) : Rdv K H (.int i) (.int i)
  | str (x : Str) : Rdv K H (.str x) (.str x)
  | tup {a : Addr} {vs : List V} {ds : List D} : SqT K H a vs → Rdvs K H vs ds → Rdv K H (.ref a) (.tup ds)
  | lst {a : Addr} {vs : List V} {ds : List D} : SqL K H a vs → Rdvs K H vs ds → Rdv K H (.ref a) (.lst ds)
  | fl {a : Addr} {vs : List V} {ds : List D} : SqL K H a vs → Rdvs K H vs ds → Rdv K H (.ref a) (.fl ds)
inductive Rdvs (K : Frag) (H : Hp) : List V → List D → Prop
  | nil : Rdvs K H [] []
  | cons {v : V} {vs : List V} {d : D} {ds : List D} : Rdv K H v d → Rdvs K H vs ds → Rdvs K H (v :: vs) (d :: ds)
end
theorem Rdvs.length {K : Frag} {H : Hp} : ∀ {vs : List V} {ds : List D}, Rdvs K H vs ds → vs.length = ds.length
  | _, _, .nil => rfl
  | _, _, .cons _ t => congrArg (· + 1) (Rdvs.length t)
mutual
theorem Dat.rdv {K : Frag} {ι : Nat → Addr} {N : Nat} {B H : Hp} (fz : ∀ a o, B a = some o → H a = some o) : ∀ {n : Nat} (d : D) {v : V}, Dat K ι N B v d → D.data n d = true → Rdv K H v d
  | _, .non, _, h, _ => by cases h; exact .non
  | _, .bl b, _, h, _ => by cases h; exact .bl b
  | _, .int i, _, h, _ => by cases h; exact .int i
  | _, .str x, _, h, _ => by cases h; exact .str x
  | n + 1, .tup xs, _, h, e => by
    cases h with
    | tup q _ t => exact .tup (SqT.same fz q) (Dats.rdv fz xs t (by simpa [D.data] using e))
  | n + 1, .lst xs, _, h, e => by
    cases h with
    | lst q _ t => exact .lst (SqL.of (fz _ _ q)) (Dats.rdv fz xs t (by simpa [D.data] using e))
  | n + 1, .fl xs, _, h, e => by
    cases h with
    | fl q _ t => exact .fl (SqL.same fz q) (Dats.rdv fz xs t (by simpa [D.data] using e))
  | 0, .tup _, _, _, e => by simp [D.data] at e
  | 0, .lst _, _, _, e => by simp [D.data] at e
  | 0, .fl _, _, _, e => by simp [D.data] at e
  | _, .ty _, _, _, e => by simp [D.data] at e
  | _, .ref _, _, _, e => by simp [D.data] at e
  | _, .dk _ _, _, _, e => by simp [D.data] at e
  | _, .dt _ _, _, _, e => by simp [D.data] at e
  | _, .ins _ _ _, _, _, e => by simp [D.data] at e
  | _, .ob _, _, _, e => by simp [D.data] at e
theorem Dats.rdv {K : Frag} {ι : Nat → Addr} {N : Nat} {B H : Hp} (fz : ∀ a o, B a = some o → H a = some o) : ∀ {n : Nat} (ds : List D) {vs : List V}, Dats K ι N B vs ds → D.dataAll n ds = true → Rdvs K H vs ds
  | _, [], _, h, _ => by cases h; exact .nil
  | n, d :: ds, _, h, e => by
    cases h with
    | cons h1 h2 =>
      simp only [D.dataAll, Bool.and_eq_true] at e
      exact .cons (Dat.rdv fz d h1 e.1) (Dats.rdv fz ds h2 e.2)
end
section
variable {X : Cx} {pins : List (Addr × Obj)} {σ : L2.St} {H : Hp} {s : Shared}
mutual
/-- one value, two data -/
theorem Rdv.same (I : Inv X pins σ H s) : ∀ (d e : D) {v : V}, Rdv X.K H v d → Rdv X.K H v e → eqG d e = true
  | .non, _, _, h, g => by cases h; cases g; rfl
  | .bl b, _, _, h, g => by cases h; cases g; simp [eqG]
  | .int b, _, _, h, g => by cases h; cases g; simp [eqG]
  | .str b, _, _, h, g => by cases h; cases g; simp [eqG]
  | .tup xs, _, _, h, g => by
    cases h with
    | tup q t =>
      cases g with
      | tup q2 t2 =>
        obtain rfl := I.tuple_inj q q2
        show eqGs _ _ = true
        exact Rdvs.same I xs _ t t2
      | lst q2 t2 =>
        obtain ⟨_, _, p1, _⟩ := I.tuple q
        obtain ⟨_, _, p2, _⟩ := I.list q2
        exact absurd rfl (SeqAt.ne_of_list_tuple p2.isList p1)
      | fl q2 t2 =>
        obtain ⟨_, _, p1, _⟩ := I.tuple q
        obtain ⟨_, _, p2, _⟩ := I.list q2
        exact absurd rfl (SeqAt.ne_of_list_tuple p2.isList p1)
  | .lst xs, _, _, h, g => by
    cases h with
    | lst q t =>
      cases g with
      | tup q2 t2 =>
        obtain ⟨_, _, p1, _⟩ := I.tuple q2
        obtain ⟨_, _, p2, _⟩ := I.list q
        exact absurd rfl (SeqAt.ne_of_list_tuple p2.isList p1)
      | lst q2 t2 =>
        obtain rfl := I.list_inj q q2
        show eqGs _ _ = true
        exact Rdvs.same I xs _ t t2
      | fl q2 t2 =>
        obtain rfl := I.list_inj q q2
        show eqGs _ _ = true
        exact Rdvs.same I xs _ t t2
  | .fl xs, _, _, h, g => by
    cases h with
    | fl q t =>
      cases g with
      | tup q2 t2 =>
        obtain ⟨_, _, p1, _⟩ := I.tuple q2
        obtain ⟨_, _, p2, _⟩ := I.list q
        exact absurd rfl (SeqAt.ne_of_list_tuple p2.isList p1)
      | lst q2 t2 =>
        obtain rfl := I.list_inj q q2
        show eqGs _ _ = true
        exact Rdvs.same I xs _ t t2
      | fl q2 t2 =>
        obtain rfl := I.list_inj q q2
        show eqGs _ _ = true
        exact Rdvs.same I xs _ t t2
  | .ty _, _, _, h, _ => by cases h
  | .ref _, _, _, h, _ => by cases h
  | .dk _ _, _, _, h, _ => by cases h
  | .dt _ _, _, _, h, _ => by cases h
  | .ins _ _ _, _, _, h, _ => by cases h
  | .ob _, _, _, h, _ => by cases h
theorem Rdvs.same (I : Inv X pins σ H s) : ∀ (ds es : List D) {vs : List V}, Rdvs X.K H vs ds → Rdvs X.K H vs es → eqGs ds es = true
  | [], _, _, h, g => by cases h; cases g; rfl
  | d :: ds, _, _, h, g => by
    cases h with
    | cons h1 h2 =>
      cases g with
      | cons g1 g2 =>
        show (eqG _ _ && eqGs _ _) = true
        rw [Rdv.same I d _ h1 g1, Rdvs.same I ds _ h2 g2]; rfl
end
theorem Rdvs.at {K : Frag} {us : List Value} {P : V → D → Value → Prop} : ∀ {vs : List V} {ds : List D}, Rdvs K H vs ds → Vals vs us → ∀ j (h : j < us.length), ∃ v, Rdv K H v (ds.getD j .non) ∧ RelV v us[j] ∧ ds.getD j .non ∈ ds := by
  intro vs ds t r
  induction r generalizing ds with
  | nil => intro j h; exact absurd h (Nat.not_lt_zero _)
  | @cons x u xs us' r1 r2 ih =>
    cases t with
    | cons h1 h2 =>
      intro j h
      cases j with
      | zero => exact ⟨x, h1, r1, List.mem_cons_self⟩
      | succ j =>
        obtain ⟨v, e1, e2, e3⟩ := ih h2 j (by simpa using h)
        exact ⟨v, e1, e2, List.mem_cons_of_mem _ e3⟩
end
section
variable {X : Cx}
/-- is None -/
def isNone : D → Bool
  | .non => true
  | _ => false
theorem Dat.isNone {K : Frag} {ι : Nat → Addr} {N : Nat} {B : Hp} {v : V} {d : D} (h : Dat K ι N B v d) : decide (v = .non) = PD.isNone d := by
  cases h <;> first | rfl | simp [PD.isNone]
end
/-- what a walk needs of what lies between -/
structure Exw (w w' : Wr) : Prop where
  le : w.S.length ≤ w'.S.length
  io : ∀ n, n < w.S.length → w'.ι n = w.ι n
  fz : ∀ a o, w.B a = some o → w'.B a = some o
theorem Ex.w {w w' : Wr} (x : Ex w w') : Exw w w' := ⟨x.le, x.io, x.fz⟩
theorem Exw.trans {w w' w'' : Wr} (a : Exw w w') (b : Exw w' w'') : Exw w w'' := ⟨Nat.le_trans a.le b.le, fun n h => (b.io n (Nat.lt_of_lt_of_le h a.le)).trans (a.io n h), fun c o h => b.fz c o (a.fz c o h)⟩
section
variable {X : Cx} {W : WX} {tg e : Expr} {m : Rho → M D} {ms : Rho → M (List D)} {p pos tpos : Pos}
theorem Dats.one {K : Frag} {w : Wr} {vs : List V} {d : D} (h : Dts K w vs [d]) : ∃ v, vs = [v] ∧ Dt K w v d := by
  cases h with
  | cons h t => cases t; exact ⟨_, rfl, h⟩
end
theorem Pst.split {K : Frag} {W : XK} {w0 w : Wr} {α β : Type} {m : M α} {f : α → M β} {k : β → Wr → Prop} (h : Pst K W w0 ((m >>= f) w.S) k) (x : Ex w0 w) (d : Wd K w) :
    Pst K W w (m w.S) fun a w' => Ex w0 w' ∧ Pst K W w0 (f a w'.S) k := by
  rw [bind_app] at h
  cases e : m w.S with
  | ok a S =>
    rw [e] at h
    intro w' e' x' d'
    rw [e']
    exact ⟨x.trans d x', h⟩
  | exc C fs S =>
    rw [e] at h
    exact fun w' dd e' x' d' => h w' dd e' (x.trans d x') d'
  | bad => rw [e] at h; exact h.elim
section
variable {K : Frag} {ι : Nat → Addr} {N : Nat} {B : Hp}
/-- the value at a key -/
def valD {κ α : Type} [DecidableEq κ] : List κ → List α → κ → Option α
  | k :: ks, d :: ds, x => if k = x then some d else valD ks ds x
  | _, _, _ => none
theorem Dats.val {κ : Type} [DecidableEq κ] {x : κ} : ∀ {ks : List κ} {vs : List V} {ds : List D}, Dats K ι N B vs ds → ks.length = vs.length →
    (∃ v d, valV (ks.zip vs) x = some v ∧ valD ks ds x = some d ∧ Dat K ι N B v d) ∨ (valV (ks.zip vs) x = none ∧ valD ks ds x = none)
  | [], _, _, .nil, _ => .inr ⟨rfl, rfl⟩
  | k :: ks, _, _, .cons h t, hl => by
    by_cases e : k = x
    · exact .inl ⟨_, _, valV_pos (p := (k, _)) e, by simp [valD, e], h⟩
    · rcases Dats.val t (x := x) (ks := ks) (by simpa using hl) with ⟨v, d, e1, e2, r⟩ | ⟨e1, e2⟩
      · exact .inl ⟨v, d, (valV_neg (p := (k, _)) e).trans e1, by simp [valD, e, e2], r⟩
      · exact .inr ⟨(valV_neg (p := (k, _)) e).trans e1, by simp [valD, e, e2]⟩
end
abbrev W3 := Int × Int × Int
abbrev Dr (α : Type) := W3 → α × W3
def Dr.map {α β : Type} (f : α → β) (m : Dr α) : Dr β := fun w => (f (m w).1, (m w).2)
open StX ClX
def look : List Str → List D → Str → Option D
  | n :: ns, d :: ds, f => if f = n then some d else look ns ds f
  | _, _, _ => none
section
variable {X : Cx} {W : WX} {e o : Expr} {es : List Expr} {m mo me : Rho → M D} {ms : Rho → M (List D)} {p pos apos : Pos} {f x : Str}
theorem SCl.all {S : List MO} (h : SCl S) : S.all (fun o => o.cl S.length) = true := by
  rw [List.all_eq_true]
  intro o ho
  obtain ⟨n, hn, e⟩ := List.getElem_of_mem ho
  exact h n o (by rw [List.getElem?_eq_getElem hn, e])
end
def seven : List String := ["NoneType", "bool", "int", "str", "tuple", "list", "dict"]
set_option maxHeartbeats 2000000
def kitBq (K : Frag) (C : Addr) : Bool := PySem.W.plainGet K C Str.empty && (PySem.W.hasDictIn K C && (PySem.W.plainOver K C && (He.eqO (PySem.W.findIn K (.ref C) "__setattr__") (some (some (.builtin "object.__setattr__"))) &&
  (He.eqO (PySem.W.findIn K (.ref C) "__class__") (some (some (.builtin "object.__class__"))) && (decide (PySem.W.mroIn K C (.type "object") = some true) && ((seven.all fun T => decide (PySem.W.kitOne K (.type T) (.ref C) = some false)) &&
  ((seven.all fun T => decide (PySem.W.kitOne K (.ref C) (.type T) = some false)) && decide (PySem.W.kitOne K (.ref C) (.ref C) = some true))))))))
def kitsB (K : Frag) (cs : List Addr) : Bool := cs.all (kitBq K) && ((cs.all fun C => cs.all fun D => decide (C = D) || decide (PySem.W.kitOne K (.ref C) (.ref D) = some false)) &&
  (He.eqO (PySem.W.specialIn K (.builtin "object.__class__") "__get__") (some (some (.builtin "getset_descriptor.__get__"))) && decide (PySem.W.takesIn K (.builtin "object.__class__") = some true)))
abbrev AlP : Type := Bool × List He.FnW
def obsP (B : Frag → Bool) (fn : List He5.DefA) (K : Frag) : AlP := (B K && fn.all fun d => d.ok K, fn.map fun d => He5.fnA K (d.at_ K))
def valP (fn : List He5.DefA) : AlP := (true, fn.map He5.DefA.val)
def SaysP (B : Frag → Bool) (fn : List He5.DefA) (K : Frag) : Prop := obsP B fn K = valP fn
/-- the names that the look goes by: classes, their methods, global defs -/
structure Nm where
  cn : List Str
  mn : List (Str × Str)
  gn : List Str
  /-- more places to look at -/
  ad : List Addr
def rfs (g : Addr → Option Obj) (a : Addr) : List Addr := match g a with
  | some o => He.refsD o
  | none => []
def kP0 (g : Addr → Option Obj) : Frag := He.frG g [mainGlobals, cStatics]
def asP1 (g : Addr → Option Obj) (q : Nm) : List Addr := mainGlobals :: cStatics :: (q.ad ++ q.cn.flatMap fun x => He.ga (kP0 g) x :: rfs g (He.ga (kP0 g) x))
def kP1 (g : Addr → Option Obj) (q : Nm) : Frag := He.frG g (asP1 g q)
def asP (g : Addr → Option Obj) (q : Nm) : List Addr := asP1 g q ++ ((q.mn.flatMap fun x => He.ma (kP1 g q) (He.ga (kP0 g) x.1) x.2 :: (rfs g (He.ma (kP1 g q) (He.ga (kP0 g) x.1) x.2)).flatMap fun b => b :: rfs g b) ++ q.gn.flatMap fun x => He.ga (kP0 g) x :: rfs g (He.ga (kP0 g) x))
section
variable {B : Frag → Bool} {fn : List He5.DefA} {K : Frag}
theorem SaysP.bool (z : SaysP B fn K) : B K = true := by
  have h : (B K && fn.all fun d => d.ok K) = true := congrArg (fun y : AlP => y.1) z
  rw [Bool.and_eq_true] at h
  exact h.1
end
open PySem.Calls
abbrev kyT : List Value := [.type "KeyError", .type "LookupError", .type "Exception", .type "BaseException", .type "object"]
/-- the making: newId is B's -/
structure NewF (B newId : String) (bt : List Value) : Prop where
  ends : newId.endsWith ".__new__" = true
  owner : newId.dropRight 8 = B
  entry : entryFor table newId = some Builtin.«BaseException.__new__»
  quiet : newId.startsWith "lifetime." = false
  spl : splitId newId = some (B, "__new__")
  knd : builtinKind newId = some .builtinFn
  row : Manifest.signature? newId = some ⟨.any, B, B, .cls, [⟨"args", .varPos, false⟩, ⟨"kwargs", .varKw, false⟩]⟩
  hasB : bt.contains (.type B) = true
  noA : bt.contains (.type "AttributeError") = false
  noN : bt.contains (.type "NameError") = false
  canon : Manifest.canonical newId = Manifest.canonical "BaseException.__new__"
  noStar : (B != "*") = true
/-- what super().__init__ finds: the slot i of B -/
structure IniF (B i : String) (bt : List Value) : Prop where
  knd : builtinKind i = some .slot
  row : Manifest.signature? i = some ⟨.positional, "*", B, .self, [⟨"args", .varPos, false⟩]⟩
  plain : plainId i = true
  entry : entryFor table i = some Builtin.«BaseException.__init__»
  noStar : (B != "*") = true
  kx : PySem.W.KxsFacts B i
  st : StoreFacts B bt "object.__setattr__" "object"
theorem NewF.of {B newId i : String} {bt : List Value} (F : ExcBaseFacts B newId i bt) : NewF B newId bt := ⟨F.ends, F.owner, F.entry, F.quiet, F.newSplit, F.newKind, F.newRow, F.hasB, F.noAttr, F.noName, F.canon, F.noStar⟩
theorem IniF.of {B newId i : String} {bt : List Value} (F : ExcBaseFacts B newId i bt) (kx : PySem.W.KxsFacts B i) (st : StoreFacts B bt "object.__setattr__" "object") : IniF B i bt := ⟨F.initKind, F.initRow, F.init.plain, F.initEntry, F.noStar, kx, st⟩
abbrev btVE : List Value := [.type "ValueError", .type "Exception", .type "BaseException", .type "object"]
abbrev btIE : List Value := [.type "IndexError", .type "LookupError", .type "Exception", .type "BaseException", .type "object"]
abbrev btLE : List Value := [.type "LookupError", .type "Exception", .type "BaseException", .type "object"]
abbrev btAE : List Value := [.type "ArithmeticError", .type "Exception", .type "BaseException", .type "object"]
abbrev btOE : List Value := [.type "OverflowError", .type "ArithmeticError", .type "Exception", .type "BaseException", .type "object"]
/-- a def's promise, where no repr is under way -/
structure FnG (P : Program) (w : World) (K : Frag) (mg : Str → Option Value) (base : Heap) (CX : CXT) (k : Nat) (f : Addr) (fd : FuncData) (ps : List Str) (sp : Sp) : Prop where
  len : ∀ vs H Q E, sp vs H Q E → vs.length = ps.length
  run : ∀ (A : Around) (outer : List Env) (s : Shared) (H : Hp) (args : Args) (us : List Value) (vs : List V) (Q : VK) (E : XK), Room k A → A.guards = some [] → Env0 P w K mg base A outer s H → BindsTo s fd args (ps.zip us) → Vals vs us → sp vs H Q E → codeAny (model P w) A (.call (.ref f) args) (CR CX outer P w H s Q E) s
section
variable {P : Program} {w : World} {K : Frag} {mg : Str → Option Value} {base : Heap} {CX : CXT} {k : Nat} {f : Addr} {fd : FuncData} {ps : List Str} {sp : Sp}
theorem FnG.of (F : FnOk P w K mg base CX k f fd ps sp) : FnG P w K mg base CX k f fd ps sp := ⟨F.len, fun A outer s H args us vs Q E hr _ => F.run A outer s H args us vs Q E hr⟩
end
/-- a def of the text whose code object is at c -/
structure FunC (K : Frag) (x qual : Str) (st : Stmt) (f c : Addr) (fd : FuncData) : Prop where
  ex : ∃ (oc : Value) (od : Option Addr) (kV doc pm : Value) (an : Option Addr) (ct : Value) (osl : Array (Option Value)), fd = PySem.W.fnOf x qual (defArgs st) (defBody st) (defScope st) .none kV doc pm an (.ref c) ct ∧ K.lookup f = some ⟨oc, od, .func fd, osl⟩ ∧ PySem.W.codeIn K (.ref c) qual = true
  kp : PySem.W.keepIn K (.ref f) = true
theorem Fun.code {K : Frag} {x qual : Str} {st : Stmt} {f : Addr} {fd : FuncData} (F : Fun K x qual st f fd) : ∃ c, FunC K x qual st f c fd := by
  obtain ⟨oc, od, kV, doc, pm, an, cdv, ct, osl, e, lk, hc⟩ := F.ex
  unfold PySem.W.codeIn at hc
  split at hc
  · rename_i c
    exact ⟨c, ⟨oc, od, kV, doc, pm, an, ct, osl, e, lk, hc⟩, F.kp⟩
  · cases hc
/-- exception classes of which none is above another -/
def Leaf (K : Frag) (xs : List Addr) : Prop := ∀ x ∈ xs, ∀ y ∈ xs, PySem.W.exmOne K (.ref x) (.ref y) = some (decide (x = y))
theorem Leaf.any {K : Frag} {xs : List Addr} (L : Leaf K xs) {x : Addr} (hx : x ∈ xs) : ∀ {cs : List Addr}, (∀ c ∈ cs, c ∈ xs) → PySem.W.exmAny K (.ref x) (cs.map Value.ref) = some (decide (x ∈ cs))
  | [], _ => by simp [PySem.W.exmAny]
  | c :: cs, h => by
    show PySem.W.exmAny K (.ref x) (.ref c :: cs.map Value.ref) = _
    unfold PySem.W.exmAny
    rw [L x hx c (h c List.mem_cons_self), L.any hx (cs := cs) fun d hd => h d (List.mem_cons_of_mem _ hd)]
    simp [List.mem_cons]
abbrev XF := Option (List Str × List D)
/-- one clause: its classes, its slot, its suite's worth -/
structure HD where
  cs : List Addr
  i : Option Nat
  den : XF → Addr → Rho → M Fl
open LamX
abbrev tbO : Obj := { cls := .none, data := .fields #[] }
/-- a written __init__ of an exception class -/
structure XA where
  D : Frag → Addr
  at_ : Frag → Addr
  qual : Str
  st : Stmt
abbrev XW : Type := Option (Str × Str × Arguments × FuncBody × Scope × Addr × List Str × Addr)
def xfn (K : Frag) (a : Addr) : XW := match K.lookup a with
  | some ⟨_, _, .func fd, _⟩ => some (fd.name, fd.qualname, fd.params, fd.body, fd.scope, fd.globals, fd.closure.map (·.1), fd.builtins)
  | _ => none
def XA.val (d : XA) : XW := some ("__init__", d.qual, defArgs d.st, .stmts (defBody d.st), defScope d.st, mainGlobals, ["__class__"], builtinsNs)
def isNoneV : Value → Bool
  | .none => true
  | _ => false
def fileB (K : Frag) (file : Str) : Value → Bool
  | .ref c => (match K.lookup c with
    | some ⟨_, _, .fields vs, _⟩ => (match (vs[2]? : Option Value) with
      | some (.str f _) => decide (f = file)
      | _ => false)
    | _ => false)
  | _ => false
def cellB (K : Frag) (D : Addr) (c : Addr) : Bool := match K.lookup c with
  | some ⟨_, _, .cell (some (.ref E)), _⟩ => decide (E = D)
  | _ => false
def clsB (K : Frag) (D : Addr) : Bool := (PySem.W.clsIn K D).isSome
def XA.ok (file : Str) (K : Frag) (d : XA) : Bool := match K.lookup (d.at_ K) with
  | some ⟨_, _, .func fd, _⟩ => isNoneV fd.defaults && (PySem.W.codeIn K fd.code d.qual && (fileB K file fd.code && ((match fd.closure with
    | [(_, c)] => cellB K (d.D K) c
    | _ => false) && clsB K (d.D K))))
  | _ => false
def xclsB (K : Frag) (C D fI : Addr) (B i newId : String) (bt : List Value) : Bool :=
  decide (PySem.W.findIn K (.ref C) "__init__" = some (some (.ref fI))) && (decide (PySem.W.typeIn K (.ref fI) = some (.type "function")) && (PySem.W.excInitIn K C bt newId && (decide (PySem.W.mroIn K C (.ref D) = some true) &&
  (decide (PySem.W.ks_superIn K C D "__init__" = some (some (.builtin i))) && (decide (PySem.W.subIn K (.ref C) (.type B) = some true) && (decide (PySem.W.subIn K (.ref C) (.type "BaseException") = some true) && (decide (PySem.W.typeIn K (.ref C) = some (.type "type")) &&
  (PySem.W.keepIn K (.ref C) && (decide (PySem.W.nsIn K mainGlobals "super" = some none) && decide (PySem.W.nsIn K cStatics "thirdparty.any" = some none))))))))))
def xfldB (K : Frag) (C : Addr) (f : Str) (bt : List Value) : Bool := decide (PySem.W.findIn K (.ref C) "__setattr__" = some (some (.builtin "object.__setattr__"))) && (PySem.W.excOver K C bt && (PySem.W.hasDictIn K C && decide (PySem.W.takerIn K C f = some none)))
def xrdB (K : Frag) (C : Addr) (f : Str) : Bool := xfB K C && decide (PySem.W.findIn K (.ref C) f = some none)
def excB (K : Frag) (D : Addr) : Bool := decide (PySem.W.findIn K (.ref D) "__getattribute__" = some (some (.builtin "BaseException.__getattribute__"))) && (decide (PySem.W.findIn K (.ref D) "__getattr__" = some none) && (decide (PySem.W.subIn K (.ref D) (.type "BaseException") = some true) && (PySem.W.hasDictIn K D &&
  (decide (PySem.W.findIn K (.ref D) "__class__" = some (some (.builtin "object.__class__"))) && (decide (PySem.W.specialIn K (.builtin "object.__class__") "__get__" = some (some (.builtin "getset_descriptor.__get__"))) && (decide (PySem.W.takesIn K (.builtin "object.__class__") = some true) && decide (PySem.W.mroIn K D (.type "object") = some true)))))))
/-- a def's code object and its table -/
def tcA (K : Frag) (f : Addr) : Addr × Addr := match K.lookup f with
  | some ⟨_, _, .func fd, _⟩ => (match fd.code with
    | .ref c => (match K.lookup c with
      | some ⟨_, _, .fields vs, _⟩ => (match (vs[11]? : Option Value) with
        | some (.ref P) => (c, P)
        | _ => (0, 0))
      | _ => (0, 0))
    | _ => (0, 0))
  | _ => (0, 0)
def isStrV : Value → Bool
  | .str _ _ => true
  | _ => false
def isIntV : Value → Bool
  | .int _ _ => true
  | _ => false
def isBoolV : Value → Bool
  | .bool _ => true
  | _ => false
def chdB (K : Frag) (c P : Addr) : Bool := match K.lookup c with
  | some ⟨oc, _, .fields vs, _⟩ => decide (oc = .type "code") && (decide (vs[11]? = some (.ref P)) && (decide (vs.getD 11 .none = .ref P) && (isStrV (vs.getD 18 .none) && (isIntV (vs.getD 7 .none) && (isBoolV (vs.getD 9 .none) && (isIntV (vs.getD 10 .none) && decide (c ≠ P)))))))
  | _ => false
def tabOB (K : Frag) (f : Addr) : Bool := chdB K (tcA K f).1 (tcA K f).2 && ((K.lookup (tcA K f).2).isNone && (match K.lookup f with
  | some ⟨_, _, .func fd, _⟩ => decide (fd.code = .ref (tcA K f).1)
  | _ => false))
abbrev AlT : Type := AlP × List XW × List (Option Obj)
structure HkT where
  nm : Nm
  B : Frag → Bool
  fn : List He5.DefA
  xs : List XA
  ts : Frag → List Addr
  n : Nat
def obsT (q : HkT) (g : Addr → Option Obj) : AlT := (obsP q.B q.fn (He.frG g (asP g q.nm)), q.xs.map fun d => xfn (He.frG g (asP g q.nm)) (d.at_ (He.frG g (asP g q.nm))), (q.ts (He.frG g (asP g q.nm))).map g)
def valT (q : HkT) : AlT := (valP q.fn, q.xs.map XA.val, List.replicate q.n (some tbO))
structure SaysT (q : HkT) (K : Frag) (h : Heap) : Prop where
  kin : K.In h
  p : SaysP q.B q.fn K
  x : q.xs.map (fun d => xfn K (d.at_ K)) = q.xs.map XA.val
  t : ∀ P ∈ q.ts K, h.get? P = some tbO
theorem repl_mem {α β : Type} {f : α → β} {v : β} : ∀ {l : List α} {n : Nat}, l.map f = List.replicate n v → ∀ a ∈ l, f a = v
  | [], _, _ => fun _ h => nomatch h
  | x :: l, 0, h => by cases h
  | x :: l, n + 1, h => by
    rw [List.map_cons, List.replicate_succ] at h
    injection h with h1 h2
    intro a ha
    rcases List.mem_cons.mp ha with rfl | ha
    · exact h1
    · exact repl_mem h2 a ha
def hookT (q : HkT) : PySem.W.Hook where
  α := AlT
  obs := fun s => obsT q s.heap.get?
  val := fun _ => valT q
  says := fun _ h => ∃ K : Frag, SaysT q K h
  of := fun _ s z => ⟨He.frG s.heap.get? (asP s.heap.get? q.nm), ⟨He.frG_in, congrArg (fun y : AlT => y.1) z, congrArg (fun y : AlT => y.2.1) z, repl_mem (congrArg (fun y : AlT => y.2.2) z)⟩⟩
  keeps := fun _ _ _ ⟨K, z⟩ k => ⟨K, PySem.W.Frag.In.keeps z.kin k, z.p, z.x, fun P hP => k _ _ (z.t P hP)⟩
noncomputable def lkF (K : Frag) (a : Addr) : Option Obj := List.rec none (fun p _ ih => cond (Nat.beq a p.1) (some p.2) ih) K
noncomputable def codeF (K : Frag) (cd : Value) (q : Str) : Bool := match cd with
  | .ref c => (match lkF K c with
      | some ⟨_, _, .fields vs, _⟩ => (match vs.toList with | _ :: .str n _ :: _ => n == q | _ => false)
      | _ => false)
  | _ => false
noncomputable def okF (K : Frag) (d : He5.DefA) : Bool := match lkF K (d.at_ K) with
  | some ⟨_, _, .func fd, _⟩ => codeF K fd.code d.qual && (He.dflB K fd.defaults (d.dvs K) && He.kwdB K fd.kwdefaults (d.kws K))
  | _ => false
noncomputable def fnF (K : Frag) (a : Addr) : He.FnW := match lkF K a with
  | some ⟨_, _, .func fd, _⟩ => some (fd.name, fd.qualname, fd.params, fd.body, fd.scope, fd.globals, fd.closure, fd.builtins)
  | _ => none
noncomputable def obsF (q : HkT) (g : Addr → Option Obj) : AlT := ((q.B (He.frG g (asP g q.nm)) && q.fn.all fun d => okF (He.frG g (asP g q.nm)) d, q.fn.map fun d => fnF (He.frG g (asP g q.nm)) (d.at_ (He.frG g (asP g q.nm)))), q.xs.map fun d => xfn (He.frG g (asP g q.nm)) (d.at_ (He.frG g (asP g q.nm))), (q.ts (He.frG g (asP g q.nm))).map g)
def xkB (K : Frag) (all yes : List Addr) (cv : Value) : Bool := all.all fun A => excB K A && decide (PySem.W.kitOne K (.ref A) cv = some (decide (A ∈ yes)))
def x3B (K : Frag) (C D fI D2 f2 : Addr) (B i newId : String) (bt : List Value) : Bool :=
  (decide (PySem.W.findIn K (.ref C) "__init__" = some (some (.ref fI))) && (decide (PySem.W.typeIn K (.ref fI) = some (.type "function")) && (PySem.W.excInitIn K C bt newId && (decide (PySem.W.subIn K (.ref C) (.type "BaseException") = some true) && (decide (PySem.W.typeIn K (.ref C) = some (.type "type")) && PySem.W.keepIn K (.ref C)))))) &&
  ((decide (PySem.W.mroIn K C (.ref D) = some true) && (decide (PySem.W.ks_superIn K C D "__init__" = some (some (.ref f2))) && (decide (PySem.W.typeIn K (.ref f2) = some (.type "function")) && (PySem.W.fnIn K f2 && (decide (PySem.W.nsIn K mainGlobals "super" = some none) && decide (PySem.W.nsIn K cStatics "thirdparty.any" = some none)))))) &&
  (decide (PySem.W.mroIn K C (.ref D2) = some true) && (decide (PySem.W.ks_superIn K C D2 "__init__" = some (some (.builtin i))) && decide (PySem.W.subIn K (.ref C) (.type B) = some true))))
set_option maxHeartbeats 4000000
def topN (i : Nat) : Stmt := PySem.Challenge.pw_answeredabove_k00_errors_and_what_they_k.main.body.getD i (.Pass ⟨0, 0, 0, 0⟩)
abbrev s__law_well : Stmt := topN 18
abbrev s__law_dip : Stmt := topN 19
abbrev s__law_choose : Stmt := topN 20
abbrev s__law_messages : Stmt := topN 23
abbrev s__law_kinds : Stmt := topN 21
abbrev s__law_others : Stmt := topN 22
abbrev s__law_right : Stmt := topN 24
abbrev s_law : Stmt := topN 25
def hd0 : He5.DefA := ⟨fun K => He.ga K "_law_well", "_law_well", "_law_well", defArgs s__law_well, defBody s__law_well, defScope s__law_well, [], []⟩
def hd1 : He5.DefA := ⟨fun K => He.ga K "_law_dip", "_law_dip", "_law_dip", defArgs s__law_dip, defBody s__law_dip, defScope s__law_dip, [], []⟩
def hd2 : He5.DefA := ⟨fun K => He.ga K "_law_choose", "_law_choose", "_law_choose", defArgs s__law_choose, defBody s__law_choose, defScope s__law_choose, [], []⟩
def hd3 : He5.DefA := ⟨fun K => He.ga K "_law_messages", "_law_messages", "_law_messages", defArgs s__law_messages, defBody s__law_messages, defScope s__law_messages, [], []⟩
def hd4 : He5.DefA := ⟨fun K => He.ga K "_law_kinds", "_law_kinds", "_law_kinds", defArgs s__law_kinds, defBody s__law_kinds, defScope s__law_kinds, [], []⟩
def hd5 : He5.DefA := ⟨fun K => He.ga K "_law_others", "_law_others", "_law_others", defArgs s__law_others, defBody s__law_others, defScope s__law_others, [], []⟩
def hd6 : He5.DefA := ⟨fun K => He.ga K "_law_right", "_law_right", "_law_right", defArgs s__law_right, defBody s__law_right, defScope s__law_right, [], []⟩
def hd7 : He5.DefA := ⟨fun K => He.ga K "law", "law", "law", defArgs s_law, defBody s_law, defScope s_law, [], []⟩
def hfn : List He5.DefA := [hd0, hd1, hd2, hd3, hd4, hd5, hd6, hd7]
abbrev xs_AnswerError : Stmt := inClass (topN 1) 0
def hx0 : XA := ⟨fun K => He.ga K "AnswerError", fun K => He.ma K (He.ga K "AnswerError") "__init__", "AnswerError.__init__", xs_AnswerError⟩
abbrev xs_ParseError : Stmt := inClass (topN 10) 0
def hx1 : XA := ⟨fun K => He.ga K "ParseError", fun K => He.ma K (He.ga K "ParseError") "__init__", "ParseError.__init__", xs_ParseError⟩
abbrev xs_UnknownName : Stmt := inClass (topN 11) 0
def hx2 : XA := ⟨fun K => He.ga K "UnknownName", fun K => He.ma K (He.ga K "UnknownName") "__init__", "UnknownName.__init__", xs_UnknownName⟩
abbrev xs_UnknownSite : Stmt := inClass (topN 12) 0
def hx3 : XA := ⟨fun K => He.ga K "UnknownSite", fun K => He.ma K (He.ga K "UnknownSite") "__init__", "UnknownSite.__init__", xs_UnknownSite⟩
abbrev xs_InvalidNumber : Stmt := inClass (topN 13) 0
def hx4 : XA := ⟨fun K => He.ga K "InvalidNumber", fun K => He.ma K (He.ga K "InvalidNumber") "__init__", "InvalidNumber.__init__", xs_InvalidNumber⟩
abbrev xs_NothingToUndo : Stmt := inClass (topN 14) 0
def hx5 : XA := ⟨fun K => He.ga K "NothingToUndo", fun K => He.ma K (He.ga K "NothingToUndo") "__init__", "NothingToUndo.__init__", xs_NothingToUndo⟩
abbrev xs_Refused : Stmt := inClass (topN 15) 0
def hx6 : XA := ⟨fun K => He.ga K "Refused", fun K => He.ma K (He.ga K "Refused") "__init__", "Refused.__init__", xs_Refused⟩
abbrev xs_TooMany : Stmt := inClass (topN 16) 0
def hx7 : XA := ⟨fun K => He.ga K "TooMany", fun K => He.ma K (He.ga K "TooMany") "__init__", "TooMany.__init__", xs_TooMany⟩
def hxa : List XA := [hx0, hx1, hx2, hx3, hx4, hx5, hx6, hx7]
abbrev pX : Program := (PySem.Challenge.rw_answeredabove_k00_errors_and_what_they_k).prog
def hxs (K : Frag) : List Addr := [He.ga K "AnswerError", He.ga K "InvalidProgram", He.ga K "InvalidMode", He.ga K "InvalidTable", He.ga K "InvalidRun", He.ga K "InvalidFact", He.ga K "InvalidDerivation", He.ga K "InvalidOperation", He.ga K "InvalidCommand", He.ga K "ParseError", He.ga K "UnknownName", He.ga K "UnknownSite", He.ga K "InvalidNumber", He.ga K "NothingToUndo", He.ga K "Refused", He.ga K "TooMany"]
def hfa : List He.Fa := [.glo "_law_well", .glo "_law_dip", .glo "_law_choose", .glo "_law_messages", .glo "_law_kinds", .glo "_law_others", .glo "_law_right", .glo "law", .glo "AnswerError", .glo "InvalidProgram", .glo "InvalidMode", .glo "InvalidTable", .glo "InvalidRun", .glo "InvalidFact", .glo "InvalidDerivation", .glo "InvalidOperation", .glo "InvalidCommand", .glo "ParseError", .glo "UnknownName", .glo "UnknownSite", .glo "InvalidNumber", .glo "NothingToUndo", .glo "Refused", .glo "TooMany", .free "ArithmeticError", .free "IndexError", .free "KeyError", .free "LookupError", .free "OverflowError", .free "ValueError", .free "abs", .free "enumerate", .free "int", .free "isinstance", .free "len", .free "max", .free "min", .free "range", .free "repr"]
def hks (K : Frag) : List Addr := []
def hex (K : Frag) : List Bool := [hx0.ok pX.main.file K, hx1.ok pX.main.file K, hx2.ok pX.main.file K, hx3.ok pX.main.file K, hx4.ok pX.main.file K, hx5.ok pX.main.file K, hx6.ok pX.main.file K, hx7.ok pX.main.file K, xclsB K (He.ga K "AnswerError") (He.ga K "AnswerError") (He.ma K (He.ga K "AnswerError") "__init__") "ValueError" "ValueError.__init__" "ValueError.__new__" btVE, xclsB K (He.ga K "InvalidProgram") (He.ga K "AnswerError") (He.ma K (He.ga K "AnswerError") "__init__") "ValueError" "ValueError.__init__" "ValueError.__new__" btVE, xclsB K (He.ga K "InvalidMode") (He.ga K "AnswerError") (He.ma K (He.ga K "AnswerError") "__init__") "ValueError" "ValueError.__init__" "ValueError.__new__" btVE, xclsB K (He.ga K "InvalidTable") (He.ga K "AnswerError") (He.ma K (He.ga K "AnswerError") "__init__") "ValueError" "ValueError.__init__" "ValueError.__new__" btVE, xclsB K (He.ga K "InvalidRun") (He.ga K "AnswerError") (He.ma K (He.ga K "AnswerError") "__init__") "ValueError" "ValueError.__init__" "ValueError.__new__" btVE, xclsB K (He.ga K "InvalidFact") (He.ga K "AnswerError") (He.ma K (He.ga K "AnswerError") "__init__") "ValueError" "ValueError.__init__" "ValueError.__new__" btVE, xclsB K (He.ga K "InvalidDerivation") (He.ga K "AnswerError") (He.ma K (He.ga K "AnswerError") "__init__") "ValueError" "ValueError.__init__" "ValueError.__new__" btVE, xclsB K (He.ga K "InvalidOperation") (He.ga K "AnswerError") (He.ma K (He.ga K "AnswerError") "__init__") "ValueError" "ValueError.__init__" "ValueError.__new__" btVE, xclsB K (He.ga K "InvalidCommand") (He.ga K "AnswerError") (He.ma K (He.ga K "AnswerError") "__init__") "ValueError" "ValueError.__init__" "ValueError.__new__" btVE, x3B K (He.ga K "ParseError") (He.ga K "ParseError") (He.ma K (He.ga K "ParseError") "__init__") (He.ga K "AnswerError") (He.ma K (He.ga K "AnswerError") "__init__") "ValueError" "ValueError.__init__" "ValueError.__new__" btVE, xfldB K (He.ga K "ParseError") "line" btVE, xclsB K (He.ga K "UnknownName") (He.ga K "UnknownName") (He.ma K (He.ga K "UnknownName") "__init__") "KeyError" "KeyError.__init__" "LookupError.__new__" kyT, xfldB K (He.ga K "UnknownName") "name" kyT, xclsB K (He.ga K "UnknownSite") (He.ga K "UnknownSite") (He.ma K (He.ga K "UnknownSite") "__init__") "KeyError" "KeyError.__init__" "LookupError.__new__" kyT, xfldB K (He.ga K "UnknownSite") "site" kyT, xclsB K (He.ga K "InvalidNumber") (He.ga K "InvalidNumber") (He.ma K (He.ga K "InvalidNumber") "__init__") "IndexError" "IndexError.__init__" "IndexError.__new__" btIE, xfldB K (He.ga K "InvalidNumber") "value" btIE, xclsB K (He.ga K "NothingToUndo") (He.ga K "NothingToUndo") (He.ma K (He.ga K "NothingToUndo") "__init__") "LookupError" "LookupError.__init__" "LookupError.__new__" btLE, xfldB K (He.ga K "NothingToUndo") "many" btLE, xclsB K (He.ga K "Refused") (He.ga K "Refused") (He.ma K (He.ga K "Refused") "__init__") "ArithmeticError" "ArithmeticError.__init__" "ArithmeticError.__new__" btAE, xfldB K (He.ga K "Refused") "name" btAE, xclsB K (He.ga K "TooMany") (He.ga K "TooMany") (He.ma K (He.ga K "TooMany") "__init__") "OverflowError" "OverflowError.__init__" "OverflowError.__new__" btOE, xfldB K (He.ga K "TooMany") "limit" btOE, xrdB K (He.ga K "InvalidNumber") "value", xrdB K (He.ga K "NothingToUndo") "many", xrdB K (He.ga K "ParseError") "line", xrdB K (He.ga K "Refused") "name", xrdB K (He.ga K "TooMany") "limit", xrdB K (He.ga K "UnknownName") "name", xrdB K (He.ga K "UnknownSite") "site", decide (hxs K).Nodup, (K.lookup sysModules).isSome, xkB K [He.ga K "AnswerError", He.ga K "InvalidProgram", He.ga K "InvalidMode", He.ga K "InvalidTable", He.ga K "InvalidRun", He.ga K "InvalidFact", He.ga K "InvalidDerivation", He.ga K "InvalidOperation", He.ga K "InvalidCommand", He.ga K "ParseError", He.ga K "UnknownName", He.ga K "UnknownSite", He.ga K "InvalidNumber", He.ga K "NothingToUndo", He.ga K "Refused", He.ga K "TooMany"] [He.ga K "AnswerError", He.ga K "InvalidProgram", He.ga K "InvalidMode", He.ga K "InvalidTable", He.ga K "InvalidRun", He.ga K "InvalidFact", He.ga K "InvalidDerivation", He.ga K "InvalidOperation", He.ga K "InvalidCommand", He.ga K "ParseError"] (.ref (He.ga K "AnswerError")), xkB K [He.ga K "AnswerError", He.ga K "InvalidProgram", He.ga K "InvalidMode", He.ga K "InvalidTable", He.ga K "InvalidRun", He.ga K "InvalidFact", He.ga K "InvalidDerivation", He.ga K "InvalidOperation", He.ga K "InvalidCommand", He.ga K "ParseError", He.ga K "UnknownName", He.ga K "UnknownSite", He.ga K "InvalidNumber", He.ga K "NothingToUndo", He.ga K "Refused", He.ga K "TooMany"] [He.ga K "Refused", He.ga K "TooMany"] (.type "ArithmeticError"), xkB K [He.ga K "AnswerError", He.ga K "InvalidProgram", He.ga K "InvalidMode", He.ga K "InvalidTable", He.ga K "InvalidRun", He.ga K "InvalidFact", He.ga K "InvalidDerivation", He.ga K "InvalidOperation", He.ga K "InvalidCommand", He.ga K "ParseError", He.ga K "UnknownName", He.ga K "UnknownSite", He.ga K "InvalidNumber", He.ga K "NothingToUndo", He.ga K "Refused", He.ga K "TooMany"] [He.ga K "InvalidNumber"] (.type "IndexError"), xkB K [He.ga K "AnswerError", He.ga K "InvalidProgram", He.ga K "InvalidMode", He.ga K "InvalidTable", He.ga K "InvalidRun", He.ga K "InvalidFact", He.ga K "InvalidDerivation", He.ga K "InvalidOperation", He.ga K "InvalidCommand", He.ga K "ParseError", He.ga K "UnknownName", He.ga K "UnknownSite", He.ga K "InvalidNumber", He.ga K "NothingToUndo", He.ga K "Refused", He.ga K "TooMany"] [He.ga K "InvalidCommand"] (.ref (He.ga K "InvalidCommand")), xkB K [He.ga K "AnswerError", He.ga K "InvalidProgram", He.ga K "InvalidMode", He.ga K "InvalidTable", He.ga K "InvalidRun", He.ga K "InvalidFact", He.ga K "InvalidDerivation", He.ga K "InvalidOperation", He.ga K "InvalidCommand", He.ga K "ParseError", He.ga K "UnknownName", He.ga K "UnknownSite", He.ga K "InvalidNumber", He.ga K "NothingToUndo", He.ga K "Refused", He.ga K "TooMany"] [He.ga K "InvalidDerivation"] (.ref (He.ga K "InvalidDerivation")), xkB K [He.ga K "AnswerError", He.ga K "InvalidProgram", He.ga K "InvalidMode", He.ga K "InvalidTable", He.ga K "InvalidRun", He.ga K "InvalidFact", He.ga K "InvalidDerivation", He.ga K "InvalidOperation", He.ga K "InvalidCommand", He.ga K "ParseError", He.ga K "UnknownName", He.ga K "UnknownSite", He.ga K "InvalidNumber", He.ga K "NothingToUndo", He.ga K "Refused", He.ga K "TooMany"] [He.ga K "InvalidFact"] (.ref (He.ga K "InvalidFact")), xkB K [He.ga K "AnswerError", He.ga K "InvalidProgram", He.ga K "InvalidMode", He.ga K "InvalidTable", He.ga K "InvalidRun", He.ga K "InvalidFact", He.ga K "InvalidDerivation", He.ga K "InvalidOperation", He.ga K "InvalidCommand", He.ga K "ParseError", He.ga K "UnknownName", He.ga K "UnknownSite", He.ga K "InvalidNumber", He.ga K "NothingToUndo", He.ga K "Refused", He.ga K "TooMany"] [He.ga K "InvalidMode"] (.ref (He.ga K "InvalidMode")), xkB K [He.ga K "AnswerError", He.ga K "InvalidProgram", He.ga K "InvalidMode", He.ga K "InvalidTable", He.ga K "InvalidRun", He.ga K "InvalidFact", He.ga K "InvalidDerivation", He.ga K "InvalidOperation", He.ga K "InvalidCommand", He.ga K "ParseError", He.ga K "UnknownName", He.ga K "UnknownSite", He.ga K "InvalidNumber", He.ga K "NothingToUndo", He.ga K "Refused", He.ga K "TooMany"] [He.ga K "InvalidNumber"] (.ref (He.ga K "InvalidNumber")), xkB K [He.ga K "AnswerError", He.ga K "InvalidProgram", He.ga K "InvalidMode", He.ga K "InvalidTable", He.ga K "InvalidRun", He.ga K "InvalidFact", He.ga K "InvalidDerivation", He.ga K "InvalidOperation", He.ga K "InvalidCommand", He.ga K "ParseError", He.ga K "UnknownName", He.ga K "UnknownSite", He.ga K "InvalidNumber", He.ga K "NothingToUndo", He.ga K "Refused", He.ga K "TooMany"] [He.ga K "InvalidOperation"] (.ref (He.ga K "InvalidOperation")), xkB K [He.ga K "AnswerError", He.ga K "InvalidProgram", He.ga K "InvalidMode", He.ga K "InvalidTable", He.ga K "InvalidRun", He.ga K "InvalidFact", He.ga K "InvalidDerivation", He.ga K "InvalidOperation", He.ga K "InvalidCommand", He.ga K "ParseError", He.ga K "UnknownName", He.ga K "UnknownSite", He.ga K "InvalidNumber", He.ga K "NothingToUndo", He.ga K "Refused", He.ga K "TooMany"] [He.ga K "InvalidProgram"] (.ref (He.ga K "InvalidProgram")), xkB K [He.ga K "AnswerError", He.ga K "InvalidProgram", He.ga K "InvalidMode", He.ga K "InvalidTable", He.ga K "InvalidRun", He.ga K "InvalidFact", He.ga K "InvalidDerivation", He.ga K "InvalidOperation", He.ga K "InvalidCommand", He.ga K "ParseError", He.ga K "UnknownName", He.ga K "UnknownSite", He.ga K "InvalidNumber", He.ga K "NothingToUndo", He.ga K "Refused", He.ga K "TooMany"] [He.ga K "InvalidRun"] (.ref (He.ga K "InvalidRun")), xkB K [He.ga K "AnswerError", He.ga K "InvalidProgram", He.ga K "InvalidMode", He.ga K "InvalidTable", He.ga K "InvalidRun", He.ga K "InvalidFact", He.ga K "InvalidDerivation", He.ga K "InvalidOperation", He.ga K "InvalidCommand", He.ga K "ParseError", He.ga K "UnknownName", He.ga K "UnknownSite", He.ga K "InvalidNumber", He.ga K "NothingToUndo", He.ga K "Refused", He.ga K "TooMany"] [He.ga K "InvalidTable"] (.ref (He.ga K "InvalidTable")), xkB K [He.ga K "AnswerError", He.ga K "InvalidProgram", He.ga K "InvalidMode", He.ga K "InvalidTable", He.ga K "InvalidRun", He.ga K "InvalidFact", He.ga K "InvalidDerivation", He.ga K "InvalidOperation", He.ga K "InvalidCommand", He.ga K "ParseError", He.ga K "UnknownName", He.ga K "UnknownSite", He.ga K "InvalidNumber", He.ga K "NothingToUndo", He.ga K "Refused", He.ga K "TooMany"] [He.ga K "UnknownName", He.ga K "UnknownSite"] (.type "KeyError"), xkB K [He.ga K "AnswerError", He.ga K "InvalidProgram", He.ga K "InvalidMode", He.ga K "InvalidTable", He.ga K "InvalidRun", He.ga K "InvalidFact", He.ga K "InvalidDerivation", He.ga K "InvalidOperation", He.ga K "InvalidCommand", He.ga K "ParseError", He.ga K "UnknownName", He.ga K "UnknownSite", He.ga K "InvalidNumber", He.ga K "NothingToUndo", He.ga K "Refused", He.ga K "TooMany"] [He.ga K "UnknownName", He.ga K "UnknownSite", He.ga K "InvalidNumber", He.ga K "NothingToUndo"] (.type "LookupError"), xkB K [He.ga K "AnswerError", He.ga K "InvalidProgram", He.ga K "InvalidMode", He.ga K "InvalidTable", He.ga K "InvalidRun", He.ga K "InvalidFact", He.ga K "InvalidDerivation", He.ga K "InvalidOperation", He.ga K "InvalidCommand", He.ga K "ParseError", He.ga K "UnknownName", He.ga K "UnknownSite", He.ga K "InvalidNumber", He.ga K "NothingToUndo", He.ga K "Refused", He.ga K "TooMany"] [He.ga K "NothingToUndo"] (.ref (He.ga K "NothingToUndo")), xkB K [He.ga K "AnswerError", He.ga K "InvalidProgram", He.ga K "InvalidMode", He.ga K "InvalidTable", He.ga K "InvalidRun", He.ga K "InvalidFact", He.ga K "InvalidDerivation", He.ga K "InvalidOperation", He.ga K "InvalidCommand", He.ga K "ParseError", He.ga K "UnknownName", He.ga K "UnknownSite", He.ga K "InvalidNumber", He.ga K "NothingToUndo", He.ga K "Refused", He.ga K "TooMany"] [He.ga K "TooMany"] (.type "OverflowError"), xkB K [He.ga K "AnswerError", He.ga K "InvalidProgram", He.ga K "InvalidMode", He.ga K "InvalidTable", He.ga K "InvalidRun", He.ga K "InvalidFact", He.ga K "InvalidDerivation", He.ga K "InvalidOperation", He.ga K "InvalidCommand", He.ga K "ParseError", He.ga K "UnknownName", He.ga K "UnknownSite", He.ga K "InvalidNumber", He.ga K "NothingToUndo", He.ga K "Refused", He.ga K "TooMany"] [He.ga K "ParseError"] (.ref (He.ga K "ParseError")), xkB K [He.ga K "AnswerError", He.ga K "InvalidProgram", He.ga K "InvalidMode", He.ga K "InvalidTable", He.ga K "InvalidRun", He.ga K "InvalidFact", He.ga K "InvalidDerivation", He.ga K "InvalidOperation", He.ga K "InvalidCommand", He.ga K "ParseError", He.ga K "UnknownName", He.ga K "UnknownSite", He.ga K "InvalidNumber", He.ga K "NothingToUndo", He.ga K "Refused", He.ga K "TooMany"] [He.ga K "Refused"] (.ref (He.ga K "Refused")), xkB K [He.ga K "AnswerError", He.ga K "InvalidProgram", He.ga K "InvalidMode", He.ga K "InvalidTable", He.ga K "InvalidRun", He.ga K "InvalidFact", He.ga K "InvalidDerivation", He.ga K "InvalidOperation", He.ga K "InvalidCommand", He.ga K "ParseError", He.ga K "UnknownName", He.ga K "UnknownSite", He.ga K "InvalidNumber", He.ga K "NothingToUndo", He.ga K "Refused", He.ga K "TooMany"] [He.ga K "TooMany"] (.ref (He.ga K "TooMany")), xkB K [He.ga K "AnswerError", He.ga K "InvalidProgram", He.ga K "InvalidMode", He.ga K "InvalidTable", He.ga K "InvalidRun", He.ga K "InvalidFact", He.ga K "InvalidDerivation", He.ga K "InvalidOperation", He.ga K "InvalidCommand", He.ga K "ParseError", He.ga K "UnknownName", He.ga K "UnknownSite", He.ga K "InvalidNumber", He.ga K "NothingToUndo", He.ga K "Refused", He.ga K "TooMany"] [He.ga K "UnknownName"] (.ref (He.ga K "UnknownName")), xkB K [He.ga K "AnswerError", He.ga K "InvalidProgram", He.ga K "InvalidMode", He.ga K "InvalidTable", He.ga K "InvalidRun", He.ga K "InvalidFact", He.ga K "InvalidDerivation", He.ga K "InvalidOperation", He.ga K "InvalidCommand", He.ga K "ParseError", He.ga K "UnknownName", He.ga K "UnknownSite", He.ga K "InvalidNumber", He.ga K "NothingToUndo", He.ga K "Refused", He.ga K "TooMany"] [He.ga K "UnknownSite"] (.ref (He.ga K "UnknownSite")), xkB K [He.ga K "AnswerError", He.ga K "InvalidProgram", He.ga K "InvalidMode", He.ga K "InvalidTable", He.ga K "InvalidRun", He.ga K "InvalidFact", He.ga K "InvalidDerivation", He.ga K "InvalidOperation", He.ga K "InvalidCommand", He.ga K "ParseError", He.ga K "UnknownName", He.ga K "UnknownSite", He.ga K "InvalidNumber", He.ga K "NothingToUndo", He.ga K "Refused", He.ga K "TooMany"] [He.ga K "AnswerError", He.ga K "InvalidProgram", He.ga K "InvalidMode", He.ga K "InvalidTable", He.ga K "InvalidRun", He.ga K "InvalidFact", He.ga K "InvalidDerivation", He.ga K "InvalidOperation", He.ga K "InvalidCommand", He.ga K "ParseError"] (.type "ValueError"), tabOB K (He.ga K "_law_right"), tabOB K (He.ga K "law")]
def hB (K : Frag) : Bool := (hfa.all fun f => f.ok K) && (kitsB K (hks K) && (hex K).all id)
def hnm : Nm := ⟨["AnswerError", "InvalidProgram", "InvalidMode", "InvalidTable", "InvalidRun", "InvalidFact", "InvalidDerivation", "InvalidOperation", "InvalidCommand", "ParseError", "UnknownName", "UnknownSite", "InvalidNumber", "NothingToUndo", "Refused", "TooMany"], [("AnswerError", "__init__"), ("ParseError", "__init__"), ("UnknownName", "__init__"), ("UnknownSite", "__init__"), ("InvalidNumber", "__init__"), ("NothingToUndo", "__init__"), ("Refused", "__init__"), ("TooMany", "__init__")], (["_law_well", "_law_dip", "_law_choose", "_law_messages", "_law_kinds", "_law_others", "_law_right", "law"] : List Str), [sysModules]⟩
def hts (K : Frag) : List Addr := []
def hq : HkT := ⟨hnm, hB, hfn, hxa, hts, 0⟩
def hloose : List Str := (["AnswerError", "InvalidProgram", "InvalidMode", "InvalidTable", "InvalidRun", "InvalidFact", "InvalidDerivation", "InvalidOperation", "InvalidCommand", "ParseError"] : List Str) ++ (["UnknownName", "UnknownSite", "InvalidNumber", "NothingToUndo", "Refused", "TooMany", "_law_well", "_law_dip", "_law_choose", "_law_kinds"] : List Str) ++ (["_law_others", "_law_messages", "_law_right"] : List Str)
abbrev hR : PySem.W.OpenRow := PySem.W.OpenLaw.row PySem.Challenge.rw_answeredabove_k00_errors_and_what_they_k
abbrev hH : PySem.W.Hook := hookT hq
noncomputable def hob (s : PySem.W.SharedT) : AlT := obsF hq (HandSHeadRun.getT s)
theorem hrun (w : World) : HandSHeadRun.RunEq hR (PySem.W.view hR.prog [25]) hH hob 60000 hloose w := by
  intro os
  kernel_rfl
theorem then_ok {α β : Type} (a : α) (S : List MO) (f : α → M β) : (Res.ok a S).andThen f = f a S := (rfl)
theorem then_exc {α β : Type} (C : Value) (fs : Option (List Str × List D)) (S : List MO) (f : α → M β) : (Res.exc C fs S).andThen f = .exc C fs S := (rfl)
theorem then_bad {α β : Type} (f : α → M β) : (Res.bad).andThen f = .bad := (rfl)
def toRes {α : Type} (o : Option α) (S : List MO) : Res α := match o with
  | some a => .ok a S
  | none => .bad
theorem toRes_some {α : Type} (a : α) (S : List MO) : toRes (some a) S = .ok a S := (rfl)
theorem toRes_none {α : Type} (S : List MO) : toRes (none : Option α) S = .bad := (rfl)
def lift {α : Type} : Option α → M α
  | some a => pure a
  | none => bad
theorem pure_app {α : Type} (a : α) (S : List MO) : (pure a : M α) S = .ok a S := (rfl)
theorem ite_app {α : Type} {c : Prop} [Decidable c] (m n : M α) (S : List MO) : (if c then m else n) S = if c then m S else n S := by split <;> rfl
theorem lift_app {α : Type} (o : Option α) (S : List MO) : lift o S = toRes o S := by cases o <;> rfl
theorem bad_app {α : Type} (S : List MO) : (bad : M α) S = .bad := (rfl)
theorem pure_bind' {α β : Type} (a : α) (f : α → M β) : (pure a : M α) >>= f = f a := (rfl)
theorem MOk.tbm {K : Frag} {w w' : Wr} {a P : Addr} {q : Str} (h : MOk K w a (.tb P q)) (eH : w'.H a = w.H a) (up : ∀ c o, w.B c = some o → w'.B c = some o) : MOk K w' a (.tb P q) := by
  obtain ⟨ps, e, z1, z2, z3⟩ := h
  exact ⟨ps, eH.trans e, z1, z2, fun pos cv hc => let ⟨c, y1, y2⟩ := z3 pos cv hc; ⟨c, y1, up c _ y2⟩⟩
section
variable {K : Frag} {ι ι' : Nat → Addr} {N N' : Nat} {B B' : Hp} {w w' w'' : Wr}
theorem Dats.get : ∀ {vs : List V} {ds : List D} {i : Nat} {d : D}, Dats K ι N B vs ds → ds[i]? = some d → ∃ v, vs[i]? = some v ∧ Dat K ι N B v d
  | _, _, _, _, .nil, e => by simp at e
  | _, _, 0, _, .cons h _, e => by simp at e; subst e; exact ⟨_, rfl, h⟩
  | _, _, i + 1, _, .cons _ t, e => by
    obtain ⟨v, h1, h2⟩ := Dats.get t (i := i) (by simpa using e)
    exact ⟨v, by simpa using h1, h2⟩
theorem Dats.getV : ∀ {vs : List V} {ds : List D} {i : Nat} {v : V}, Dats K ι N B vs ds → vs[i]? = some v → ∃ d, ds[i]? = some d ∧ Dat K ι N B v d
  | _, _, _, _, .nil, e => by simp at e
  | _, _, 0, _, .cons h _, e => by simp at e; subst e; exact ⟨_, rfl, h⟩
  | _, _, i + 1, _, .cons _ t, e => by
    obtain ⟨v, h1, h2⟩ := Dats.getV t (i := i) (by simpa using e)
    exact ⟨v, by simpa using h1, h2⟩
theorem Dats.append : ∀ {vs us : List V} {ds es : List D}, Dats K ι N B vs ds → Dats K ι N B us es → Dats K ι N B (vs ++ us) (ds ++ es)
  | _, _, _, _, .nil, s => s
  | _, _, _, _, .cons h t, s => .cons h (Dats.append t s)
theorem Dats.take : ∀ {vs : List V} {ds : List D} (n : Nat), Dats K ι N B vs ds → Dats K ι N B (vs.take n) (ds.take n)
  | _, _, 0, _ => .nil
  | _, _, _ + 1, .nil => .nil
  | _, _, n + 1, .cons h t => .cons h (Dats.take n t)
theorem Dats.drop : ∀ {vs : List V} {ds : List D} (n : Nat), Dats K ι N B vs ds → Dats K ι N B (vs.drop n) (ds.drop n)
  | _, _, 0, h => h
  | _, _, _ + 1, .nil => .nil
  | _, _, n + 1, .cons _ t => Dats.drop n t
theorem Dats.set {v : V} {d : D} (h : Dat K ι N B v d) : ∀ {vs : List V} {ds : List D} (i : Nat), Dats K ι N B vs ds → Dats K ι N B (vs.set i v) (ds.set i d)
  | _, _, _, .nil => .nil
  | _, _, 0, .cons _ t => .cons h t
  | _, _, i + 1, .cons q t => .cons q (Dats.set h i t)
theorem Dats.reverse : ∀ {vs : List V} {ds : List D}, Dats K ι N B vs ds → Dats K ι N B vs.reverse ds.reverse
  | _, _, .nil => .nil
  | _, _, .cons h t => by rw [List.reverse_cons, List.reverse_cons]; exact (Dats.reverse t).append (.cons h .nil)
theorem Ex.refl (w : Wr) : Ex w w := ⟨Nat.le_refl _, fun _ _ => rfl, fun _ _ h => h, fun _ _ h => .inl h, fun _ h1 h2 => absurd h2 (Nat.not_lt.mpr h1), fun _ _ h _ => h⟩
end
theorem Lo.set {K : Frag} {w : Wr} {σ : L2.St} {ρ : Rho} {i : Nat} {v : V} {d : D} (l : Lo K w σ ρ) (h : Dt K w v d) : Lo K w (σ.set i (some v)) (ρ.set i (some d)) := by
  refine ⟨by simp [l.len], fun j e q => ?_⟩
  by_cases hj : i = j
  · subst hj
    by_cases hl : i < ρ.length
    · rw [List.getElem?_set_self hl] at q
      cases q
      exact ⟨v, List.getElem?_set_self (by rw [l.len]; exact hl), h⟩
    · rw [List.getElem?_eq_none (by simpa using Nat.not_lt.mp hl)] at q; cases q
  · rw [List.getElem?_set_ne hj] at q
    obtain ⟨u, a, b⟩ := l.sl j e q
    exact ⟨u, by rw [List.getElem?_set_ne hj]; exact a, b⟩
section
variable {K : Frag} {W : XK} {w w' : Wr} {α β : Type}
theorem Pst.mono {r : Res α} {k k' : α → Wr → Prop} (h : Pst K W w r k) (hk : ∀ a w', Ex w w' → Wd K w' → k a w' → k' a w') : Pst K W w r k' := by
  cases r with
  | ok a S => exact fun w' e x d => hk a w' x d (h w' e x d)
  | exc C fs S => exact h
  | bad => exact h
theorem Pst.bind {m : M α} {f : α → M β} {k : β → Wr → Prop} (h : Pst K W w ((m >>= f) w.S) k) : Pst K W w (m w.S) fun a w' => Pst K W w' (f a w'.S) k := by
  rw [bind_app] at h
  cases e : m w.S with
  | ok a S =>
    rw [e] at h
    intro w' e' x d
    rw [e']
    exact Pst.ex d x h
  | exc C fs S =>
    rw [e] at h
    exact h
  | bad =>
    rw [e] at h
    exact h
theorem Pst.lift {o : Option α} {f : α → M β} {k : β → Wr → Prop} (h : Pst K W w ((PD.lift o >>= f) w.S) k) : ∃ a, o = some a ∧ Pst K W w (f a w.S) k := by
  cases o with
  | none => exact h.elim
  | some a => exact ⟨a, rfl, h⟩
theorem Pst.lift1 {o : Option α} {k : α → Wr → Prop} (h : Pst K W w (PD.lift o w.S) k) : ∃ a, o = some a ∧ ∀ w', w'.S = w.S → Ex w w' → Wd K w' → k a w' := by
  cases o with
  | none => exact h.elim
  | some a => exact ⟨a, rfl, h⟩
end
section
def kA (K : Frag) (Q : List V → Hp → Prop) : List D → Wr → Prop := fun ds w => ∀ vs, Dts K w vs ds → Q vs w.H
def kT (Q : Bool → Hp → Prop) : Bool → Wr → Prop := fun b w => Q b w.H
/-- a state and slots at which a piece begins -/
def At (K : Frag) (w : Wr) (σ : L2.St) (ρ : Rho) (H : Hp) : Prop := w.H = H ∧ Wd K w ∧ Lo K w σ ρ
def tE (K : Frag) (W : WX) (m : Rho → M D) : TE := fun σ H Q => ∃ w ρ, At K w σ ρ H ∧ Pst K (WE W σ) w (m ρ w.S) (kE K Q)
def tT (K : Frag) (W : WX) (m : Rho → M Bool) : TT := fun σ H Q => ∃ w ρ, At K w σ ρ H ∧ Pst K (WE W σ) w (m ρ w.S) (kT Q)
def tA (K : Frag) (W : WX) (m : Rho → M (List D)) : TA := fun σ H Q => ∃ w ρ, At K w σ ρ H ∧ Pst K (WE W σ) w (m ρ w.S) (kA K Q)
end
/-- e is worth m -/
def PDE (X : Cx) (W : WX) (e : Expr) (m : Rho → M D) : Prop := PE X e (tE X.K W m)
def PDT (X : Cx) (W : WX) (e : Expr) (m : Rho → M Bool) : Prop := PT X e (tT X.K W m)
def PDW (X : Cx) (W : WX) (e : Expr) (m : Rho → M Bool) : Prop := PW X e (tT X.K W m)
def PDA (X : Cx) (W : WX) (es : List Expr) (m : Rho → M (List D)) : Prop := PA X es (tA X.K W m)
theorem PE.imp {X : Cx} {e : Expr} {t t' : TE} (h : PE X e t) (i : ∀ σ H Q, t' σ H Q → t σ H Q) : PE X e t' := ⟨fun pins s σ H Q I q => h.run pins s σ H Q I (i _ _ _ q)⟩
theorem PT.imp {X : Cx} {e : Expr} {t t' : TT} (h : PT X e t) (i : ∀ σ H Q, t' σ H Q → t σ H Q) : PT X e t' := ⟨fun pins s σ H Q I q => h.run pins s σ H Q I (i _ _ _ q)⟩
theorem PW.imp {X : Cx} {e : Expr} {t t' : TT} (h : PW X e t) (i : ∀ σ H Q, t' σ H Q → t σ H Q) : PW X e t' := ⟨fun wh pins s σ H Q I q => h.run wh pins s σ H Q I (i _ _ _ q)⟩
theorem PA.imp {X : Cx} {es : List Expr} {t t' : TA} (h : PA X es t) (i : ∀ σ H Q, t' σ H Q → t σ H Q) : PA X es t' := ⟨fun pos pins s σ H Q I q => h.run pos pins s σ H Q I (i _ _ _ q)⟩
theorem PS.imp {X : Cx} {st : Stmt} {t t' : TS} (h : PS X st t) (i : ∀ D σ H, t' D σ H → t D σ H) : PS X st t' := ⟨fun pins s σ H D I q => h.run pins s σ H D I (i _ _ _ q)⟩
theorem PSs.imp {X : Cx} {st : List Stmt} {t t' : TS} (h : PSs X st t) (i : ∀ D σ H, t' D σ H → t D σ H) : PSs X st t' := ⟨fun pins s σ H D I q => h.run pins s σ H D I (i _ _ _ q)⟩
theorem OpR.imp {X : Cx} {f : Value → Value → Sem Value} {r r' : R2} (h : OpR X f r) (i : ∀ x y H Q, r' x y H Q → r x y H Q) : OpR X f r' := fun pins s σ H x y v u Q I rx ry q => h pins s σ H x y v u Q I rx ry (i _ _ _ _ q)
theorem CallR.imp {X : Cx} {f : Value} {r r' : List V → Hp → VK → Prop} (h : CallR X f r) (i : ∀ xs H Q, r' xs H Q → r xs H Q) : CallR X f r' := fun pins s σ H vs us Q I rv q => h pins s σ H vs us Q I rv (i _ _ _ q)
/-- one after another -/
theorem tE_bind {K : Frag} {W : WX} {m : Rho → M D} {α : Type} {f : Rho → D → M α} {σ : L2.St} {H : Hp} {w : Wr} {ρ : Rho} {k : α → Wr → Prop} (a : At K w σ ρ H) (h : Pst K (WE W σ) w ((m ρ >>= f ρ) w.S) k)
    {Q : VK} (q : ∀ d v w', Ex w w' → At K w' σ ρ w'.H → Dt K w' v d → Pst K (WE W σ) w' (f ρ d w'.S) k → Q v w'.H) : tE K W m σ H Q :=
  ⟨w, ρ, a, (Pst.bind h).mono fun d w' e x hp v hv => q d v w' e ⟨rfl, x, a.2.2.ex e⟩ hv hp⟩
theorem tA_bind {K : Frag} {W : WX} {m : Rho → M (List D)} {α : Type} {f : Rho → List D → M α} {σ : L2.St} {H : Hp} {w : Wr} {ρ : Rho} {k : α → Wr → Prop} (a : At K w σ ρ H) (h : Pst K (WE W σ) w ((m ρ >>= f ρ) w.S) k)
    {Q : List V → Hp → Prop} (q : ∀ ds vs w', Ex w w' → At K w' σ ρ w'.H → Dts K w' vs ds → Pst K (WE W σ) w' (f ρ ds w'.S) k → Q vs w'.H) : tA K W m σ H Q :=
  ⟨w, ρ, a, (Pst.bind h).mono fun d w' e x hp v hv => q d v w' e ⟨rfl, x, a.2.2.ex e⟩ hv hp⟩
theorem tT_bind {K : Frag} {W : WX} {m : Rho → M Bool} {α : Type} {f : Rho → Bool → M α} {σ : L2.St} {H : Hp} {w : Wr} {ρ : Rho} {k : α → Wr → Prop} (a : At K w σ ρ H) (h : Pst K (WE W σ) w ((m ρ >>= f ρ) w.S) k)
    {Q : Bool → Hp → Prop} (q : ∀ b w', Ex w w' → At K w' σ ρ w'.H → Pst K (WE W σ) w' (f ρ b w'.S) k → Q b w'.H) : tT K W m σ H Q :=
  ⟨w, ρ, a, (Pst.bind h).mono fun d w' e x hp => q d w' e ⟨rfl, x, a.2.2.ex e⟩ hp⟩
theorem Wd.settle {K : Frag} {w : Wr} {p : Addr} {o : HO} (d : Wd K w) (hp : w.H p = none) : Wd K { w with B := upd w.B p o, H := upd w.H p o } ∧ Ex w { w with B := upd w.B p o, H := upd w.H p o } := by
  have nB : w.B p = none := by
    cases e : w.B p with
    | none => rfl
    | some u => rw [d.fz _ _ e] at hp; cases hp
  have np : ∀ n, n < w.S.length → w.ι n ≠ p := fun n hn z => by
    obtain ⟨u, e⟩ := d.there hn
    rw [z, hp] at e; cases e
  have ex : Ex w { w with B := upd w.B p o, H := upd w.H p o } := ⟨Nat.le_refl _, fun _ _ => rfl, fun a u h => by
      show upd w.B p o a = some u
      rw [upd_ne (fun z => by rw [z, nB] at h; cases h)]; exact h, fun a u h => by
      by_cases z : a = p
      · subst z; exact .inr hp
      · have h : upd w.B p o a = some u := h
        rw [upd_ne z] at h; exact .inl h, fun n h1 h2 => absurd h2 (Nat.not_lt.mpr h1), fun a u h _ => by
      show upd w.H p o a = some u
      rw [upd_ne (fun z => by rw [z, hp] at h; cases h)]; exact h⟩
  refine ⟨⟨fun a u h => ?_, fun n hn => ?_, fun n u h => ?_, d.inj⟩, ex⟩
  · show upd w.H p o a = some u
    by_cases z : a = p
    · subst z
      have h : upd w.B a o a = some u := h
      rw [upd_same] at h ⊢; exact h
    · have h : upd w.B p o a = some u := h
      rw [upd_ne z] at h ⊢; exact d.fz a u h
  · show upd w.B p o (w.ι n) = none
    rw [upd_ne (np n hn)]; exact d.sp n hn
  · have hn : n < w.S.length := (List.getElem?_eq_some_iff.mp h).1
    have q := d.ob n u h
    have eH : upd w.H p o (w.ι n) = w.H (w.ι n) := upd_ne (np n hn)
    have mv : ∀ {vs : List V} {ds : List D}, Dts K w vs ds → Dts K { w with B := upd w.B p o, H := upd w.H p o } vs ds := fun t => Dts.ex ex t
    cases u with
    | ml ds => obtain ⟨vs, e, t⟩ := q; exact ⟨vs, eH.trans e, mv t⟩
    | mk ks ds => obtain ⟨vs, e, l, t⟩ := q; exact ⟨vs, eH.trans e, l, mv t⟩
    | mt ks ds => obtain ⟨vs, e, l, t⟩ := q; exact ⟨vs, eH.trans e, l, mv t⟩
    | mi C ns ds => obtain ⟨dx, vs, e, l, t⟩ := q; exact ⟨dx, vs, eH.trans e, l, mv t⟩
    | tb _ _ => exact MOk.tbm q eH ex.fz
/-- a new tuple, a new list -/
theorem new_tup {K : Frag} {w : Wr} {p : Addr} {vs : List V} {ds : List D} (d : Wd K w) (hp : w.H p = none) (t : Dts K w vs ds) (hl : ds.length ≤ sizeLine) :
    ∃ w', w'.S = w.S ∧ w'.H = upd w.H p (.tup vs) ∧ Ex w w' ∧ Wd K w' ∧ Dt K w' (.ref p) (.tup ds) :=
  let z := d.settle (o := .tup vs) hp
  ⟨{ w with B := upd w.B p (.tup vs), H := upd w.H p (.tup vs) }, rfl, rfl, z.2, z.1, .tup (SqT.of (by show upd w.B p _ p = _; exact upd_same)) hl (Dts.ex z.2 t)⟩
theorem new_lst {K : Frag} {w : Wr} {p : Addr} {vs : List V} {ds : List D} (d : Wd K w) (hp : w.H p = none) (t : Dts K w vs ds) (hl : ds.length ≤ sizeLine) :
    ∃ w', w'.S = w.S ∧ w'.H = upd w.H p (.lst vs) ∧ Ex w w' ∧ Wd K w' ∧ Dt K w' (.ref p) (.lst ds) :=
  let z := d.settle (o := .lst vs) hp
  ⟨{ w with B := upd w.B p (.lst vs), H := upd w.H p (.lst vs) }, rfl, rfl, z.2, z.1, .lst (by show upd w.B p _ p = _; exact upd_same) hl (Dts.ex z.2 t)⟩
theorem slot_zero (x : Option D) (ρ : Rho) : slot (x :: ρ) 0 = x := (rfl)
theorem slot_succ (x : Option D) (ρ : Rho) (i : Nat) : slot (x :: ρ) (i + 1) = slot ρ i := (rfl)
theorem slot_some {ρ : Rho} {i : Nat} {d : D} (h : slot ρ i = some d) : ρ[i]? = some (some d) := by
  unfold slot at h
  cases e : ρ[i]? with
  | none => rw [e] at h; cases h
  | some x => rw [e] at h; cases h; rfl
section
variable {X : Cx} {W : WX} {pos : Pos}
theorem pd_var (i : Nat) {x : Str} {pos : Pos} (hN : X.N[i]? = some x := by rfl) (hv : Vis X.env.scope x := by first | exact Or.inl rfl | exact Or.inr (Or.inl rfl) | exact Or.inr (Or.inr rfl)) (hd : (x == ("__debug__" : Str)) = false := by decide)
    (hcd : (x == ("__classdict__" : Str)) = false := by decide) : PDE X W (.Name x pos) (fun ρ => lift (slot ρ i)) := by
  refine PE.imp (pe_var hN hv hd hcd) fun σ H Q ⟨w, ρ, a, h⟩ => ?_
  obtain ⟨d, e, h⟩ := Pst.lift1 h
  obtain ⟨v, e2, r⟩ := a.2.2.sl i d (slot_some e)
  have := h w rfl (Ex.refl w) a.2.1 v r
  rw [a.1] at this
  exact ⟨v, e2, this⟩
/-- a constant -/
theorem pd_const {e : Expr} {v : V} {d : D} (h : PE X e (tC v)) (r : ∀ w : Wr, Dt X.K w v d) : PDE X W e (fun _ => pure d) :=
  PE.imp h fun σ H Q ⟨w, ρ, a, q⟩ => by
    have := q w rfl (Ex.refl w) a.2.1 v (r w)
    rw [a.1] at this
    exact this
theorem pd_int {i : Int} {j pos} : PDE X W (.Constant (.int i) j pos) (fun _ => pure (.int i)) := pd_const pe_int fun _ => .int i
theorem pd_bl {b : Bool} {j pos} : PDE X W (.Constant (.bool b) j pos) (fun _ => pure (.bl b)) := pd_const pe_bl fun _ => .bl b
theorem pd_non {j pos} : PDE X W (.Constant .none j pos) (fun _ => pure .non) := pd_const pe_non fun _ => .non
theorem pd_str {x : Str} {j pos} (h : x.length ≤ sizeLine := by decide) : PDE X W (.Constant (.str x) j pos) (fun _ => pure (.str x)) := pd_const pe_str fun _ => .str x h
end
def opd (g : List MO → D → D → Option D) (x y : D) : M D := fun S => toRes (g S x y) S
def opd1 (g : List MO → D → Option D) (x : D) : M D := fun S => toRes (g S x) S
def opM (K : Frag) (g : List MO → D → D → Option D) : R2 := fun x y H Q => ∃ w dx dy d, w.H = H ∧ Wd K w ∧ Dt K w x dx ∧ Dt K w y dy ∧ g w.S dx dy = some d ∧
  ∀ w' v, w'.S = w.S → Ex w w' → Wd K w' → Dt K w' v d → Q v w'.H
theorem Pst.opd {K : Frag} {W : XK} {w : Wr} {g : List MO → D → D → Option D} {x y : D} {k : D → Wr → Prop} (h : Pst K W w (opd g x y w.S) k) : ∃ d, g w.S x y = some d ∧ ∀ w', w'.S = w.S → Ex w w' → Wd K w' → k d w' := by
  unfold PD.opd at h
  cases e : g w.S x y with
  | none => rw [e] at h; exact h.elim
  | some d => rw [e] at h; exact ⟨d, rfl, h⟩
theorem Pst.opd1 {K : Frag} {W : XK} {w : Wr} {g : List MO → D → Option D} {x : D} {k : D → Wr → Prop} (h : Pst K W w (opd1 g x w.S) k) : ∃ d, g w.S x = some d ∧ ∀ w', w'.S = w.S → Ex w w' → Wd K w' → k d w' := by
  unfold PD.opd1 at h
  cases e : g w.S x with
  | none => rw [e] at h; exact h.elim
  | some d => rw [e] at h; exact ⟨d, rfl, h⟩
def do2 (ma mb : Rho → M D) (g : List MO → D → D → Option D) : Rho → M D := fun ρ => ma ρ >>= fun x => mb ρ >>= fun y => opd g x y
theorem tOp_of {K : Frag} {W : WX} {ma mb : Rho → M D} {g : List MO → D → D → Option D} {σ : L2.St} {H : Hp} {Q : VK} (h : tE K W (do2 ma mb g) σ H Q) : tOp (opM K g) (tE K W ma) (tE K W mb) σ H Q := by
  obtain ⟨w, ρ, a, h⟩ := h
  refine tE_bind (f := fun ρ x => mb ρ >>= fun y => opd g x y) a h fun dx vx w1 e1 a1 hx h1 => tE_bind (f := fun ρ y => opd g dx y) a1 h1 fun dy vy w2 e2 a2 hy h2 => ?_
  obtain ⟨d, e, q⟩ := Pst.opd h2
  exact ⟨w2, dx, dy, d, rfl, a2.2.1, Dt.ex e2 hx, hy, e, fun w' v hS x d' hv => q w' hS x d' v hv⟩
section
variable {X : Cx} {W : WX} {a b : Expr} {ma mb : Rho → M D} {pos : Pos}
theorem pd_op {op : Operator} {g : List MO → D → D → Option D} (ho : OpR X (binaryOp op) (opM X.K g)) (ha : PDE X W a ma) (hb : PDE X W b mb) : PDE X W (.BinOp a op b pos) (do2 ma mb g) :=
  PE.imp (pe_op ho ha hb) fun _ _ _ h => tOp_of h
theorem pd_cmp {op : CmpOp} {g : List MO → D → D → Option D} (ho : OpR X (compareOp op) (opM X.K g)) (ha : PDE X W a ma) (hb : PDE X W b mb) (hm : behindInMarks op b = false) : PDE X W (.Compare a [op] [b] pos) (do2 ma mb g) :=
  PE.imp (pe_cmpR ho ha hb hm) fun _ _ _ h => tOp_of h
end
def isB : D → M Bool
  | .bl b => pure b
  | _ => bad
def asT (m : Rho → M D) : Rho → M Bool := fun ρ => m ρ >>= isB
theorem Pst.isB {K : Frag} {W : XK} {w : Wr} {x : D} {k : Bool → Wr → Prop} (h : Pst K W w (PD.isB x w.S) k) : ∃ b, x = .bl b ∧ Pst K W w ((pure b : M Bool) w.S) k := by
  cases x with
  | bl b => exact ⟨b, rfl, h⟩
  | _ => exact h.elim
theorem Dat.bl_of {K : Frag} {ι : Nat → Addr} {N : Nat} {B : Hp} {v : V} {b : Bool} (h : Dat K ι N B v (.bl b)) : v = .bl b := by cases h; rfl
theorem tTest_of {K : Frag} {W : WX} {m : Rho → M D} {σ : L2.St} {H : Hp} {Q : Bool → Hp → Prop} (h : tT K W (asT m) σ H Q) : tE K W m σ H (fun x H' => ∃ k, x = .bl k ∧ Q k H') := by
  obtain ⟨w, ρ, a, h⟩ := h
  refine tE_bind (f := fun _ x => PD.isB x) a h fun d v w1 e1 a1 hv h1 => ?_
  obtain ⟨b, rfl, h1⟩ := Pst.isB h1
  exact ⟨b, hv.bl_of, h1 w1 rfl (Ex.refl _) a1.2.1⟩
section
variable {X : Cx} {W : WX} {a b c : Expr} {ma mb mc : Rho → M D} {pos : Pos} {rest : List Expr} {ta tb : Rho → M Bool}
/-- an expression that hands back a bool, as a test -/
theorem pdt_val {e : Expr} {m : Rho → M D} (h : PDE X W e m) (he : ∀ whole, isTrue e X.env whole = (do let v ← whole; standAt e.pos; holding [v] (truthy v)) := by intro _; rfl) : PDT X W e (asT m) :=
  PT.imp (pt_val h he) fun _ _ _ h => tTest_of h
theorem pdt_cmp {op : CmpOp} {g : List MO → D → D → Option D} (ho : OpR X (compareOp op) (opM X.K g)) (ha : PDE X W a ma) (hb : PDE X W b mb) (hm : behindInMarks op b = false) : PDT X W (.Compare a [op] [b] pos) (asT (do2 ma mb g)) :=
  PT.imp (pt_cmpR ho ha hb hm) fun σ H Q h => by
    have := tTest_of h
    exact tOp_of this
def chain3 (ma mb mc : Rho → M D) (g g' : List MO → D → D → Option D) : Rho → M D := fun ρ => ma ρ >>= fun x => mb ρ >>= fun y => opd g x y >>= fun z => isB z >>= fun k =>
  if k = true then mc ρ >>= fun u => opd g' y u else pure (.bl false)
def notT (m : Rho → M Bool) : Rho → M Bool := fun ρ => m ρ >>= fun b => pure (!b)
theorem pdt_not (h : PDT X W a ta) : PDT X W (.UnaryOp .Not a pos) (notT ta) := PT.imp (pt_not h) fun σ H Q ⟨w, ρ, at0, h⟩ =>
  tT_bind (f := fun _ b => pure (!b)) at0 h fun b w1 e1 a1 h1 => h1 w1 rfl (Ex.refl _) a1.2.1
def ofT (m : Rho → M Bool) : Rho → M D := fun ρ => m ρ >>= fun b => pure (.bl b)
def andT (m n : Rho → M Bool) : Rho → M Bool := fun ρ => m ρ >>= fun b => if b = true then n ρ else pure false
def orT (m n : Rho → M Bool) : Rho → M Bool := fun ρ => m ρ >>= fun b => if b = true then pure true else n ρ
theorem PDW.pt {e : Expr} (h : PDW X W e ta) : PDT X W e ta := PW.pt h
theorem pdw_or1 (ha : PDT X W a ta) : PDW X W (.BoolOp .Or [a] pos) ta := pw_or1 ha
theorem pdw_or (ha : PDT X W a ta) (hb : PDW X W (.BoolOp .Or (b :: rest) pos) tb) : PDW X W (.BoolOp .Or (a :: b :: rest) pos) (orT ta tb) := PW.imp (pw_or ha hb) fun σ H Q ⟨w, ρ, at0, h⟩ =>
  tT_bind (f := fun ρ b => if b = true then pure true else tb ρ) at0 h fun b w1 e1 a1 h1 => by
    cases b with
    | true => rw [if_pos rfl] at h1 ⊢; exact h1 w1 rfl (Ex.refl _) a1.2.1
    | false => rw [if_neg Bool.false_ne_true] at h1 ⊢; exact ⟨w1, ρ, a1, h1⟩
def andV (m n : Rho → M D) : Rho → M D := fun ρ => m ρ >>= fun x => isB x >>= fun b => if b = true then n ρ else pure (.bl false)
def orV (m n : Rho → M D) : Rho → M D := fun ρ => m ρ >>= fun x => isB x >>= fun b => if b = true then pure (.bl true) else n ρ
def notV (m : Rho → M D) : Rho → M D := fun ρ => m ρ >>= fun x => isB x >>= fun b => pure (.bl (!b))
def ifM (t : Rho → M Bool) (m n : Rho → M D) : Rho → M D := fun ρ => t ρ >>= fun b => if b = true then m ρ else n ρ
theorem pd_if (hc : PDT X W c ta) (ha : PDE X W a ma) (hb : PDE X W b mb) : PDE X W (.IfExp c a b pos) (ifM ta ma mb) := PE.imp (pe_ifExp hc ha hb) fun σ H Q ⟨w, ρ, at0, h⟩ =>
  tT_bind (f := fun ρ b => if b = true then ma ρ else mb ρ) at0 h fun k w1 e1 a1 h1 => by
    cases k with
    | true => rw [if_pos rfl] at h1 ⊢; exact ⟨w1, ρ, a1, h1⟩
    | false => rw [if_neg Bool.false_ne_true] at h1 ⊢; exact ⟨w1, ρ, a1, h1⟩
end
section
variable {X : Cx} {W : WX} {e : Expr} {es : List Expr} {m : Rho → M D} {ms : Rho → M (List D)} {p pos : Pos}
def consM (m : Rho → M D) (ms : Rho → M (List D)) : Rho → M (List D) := fun ρ => m ρ >>= fun x => ms ρ >>= fun xs => pure (x :: xs)
theorem pda_nil : PDA X W [] (fun _ => pure []) := PA.imp pa_nil fun σ H Q ⟨w, ρ, a, h⟩ => by
  have := h w rfl (Ex.refl w) a.2.1 [] .nil
  rw [a.1] at this
  exact this
theorem pda_cons (he : PDE X W e m) (hr : PDA X W es ms) (hs : starEach (e :: es) X.env = (false, eval e X.env) :: starEach es X.env := by rfl) : PDA X W (e :: es) (consM m ms) := PA.imp (pa_cons he hr hs) fun σ H Q ⟨w, ρ, a, h⟩ =>
  tE_bind (f := fun ρ x => ms ρ >>= fun xs => pure (x :: xs)) a h fun d v w1 e1 a1 hv h1 => tA_bind (f := fun _ xs => pure (d :: xs)) a1 h1 fun ds vs w2 e2 a2 hvs h2 => h2 w2 rfl (Ex.refl _) a2.2.1 _ (.cons (Dt.ex e2 hv) hvs)
/-- items of a list, a tuple -/
def seqOf (S : List MO) : D → Option (List D)
  | .tup xs => some xs
  | .lst xs => some xs
  | .fl xs => some xs
  | .ob n => match S[n]? with
    | some (.ml xs) => some xs
    | _ => none
  | _ => none
def seqM (x : D) : M (List D) := fun S => toRes (seqOf S x) S
theorem Pst.seqM {K : Frag} {W : XK} {w : Wr} {x : D} {k : List D → Wr → Prop} (h : Pst K W w (seqM x w.S) k) : ∃ d, seqOf w.S x = some d ∧ ∀ w', w'.S = w.S → Ex w w' → Wd K w' → k d w' := by
  unfold PD.seqM at h
  cases e : seqOf w.S x with
  | none => rw [e] at h; exact h.elim
  | some d => rw [e] at h; exact ⟨d, rfl, h⟩
def starM (m : Rho → M D) (ms : Rho → M (List D)) : Rho → M (List D) := fun ρ => m ρ >>= fun x => seqM x >>= fun xs => ms ρ >>= fun ys => pure (xs ++ ys)
theorem seqOf_ok {K : Frag} {w : Wr} (d : Wd K w) {v : V} {x : D} {xs : List D} (h : Dt K w v x) (e : seqOf w.S x = some xs) : ∃ a vs, v = .ref a ∧ (SqT K w.H a vs ∨ SqL K w.H a vs) ∧ Dts K w vs xs := by
  cases h with
  | tup q _ t => cases e; exact ⟨_, _, rfl, .inl (SqT.same d.fz q), t⟩
  | lst q _ t => cases e; exact ⟨_, _, rfl, .inr (SqL.of (d.fz _ _ q)), t⟩
  | fl q _ t => cases e; exact ⟨_, _, rfl, .inr (SqL.same d.fz q), t⟩
  | ob n hn =>
    simp only [seqOf] at e
    cases q : w.S[n]? with
    | none => rw [q] at e; cases e
    | some o =>
      rw [q] at e
      cases o with
      | ml ys =>
        cases e
        obtain ⟨vs, e1, t⟩ := d.ob n _ q
        exact ⟨_, vs, rfl, .inr (SqL.of e1), t⟩
      | _ => cases e
  | _ => cases e
def mkT (xs : List D) : M D := if xs.length ≤ sizeLine then pure (.tup xs) else bad
def mkL (xs : List D) : M D := if xs.length ≤ sizeLine then pure (.lst xs) else bad
theorem Pst.mkT {K : Frag} {W : XK} {w : Wr} {xs : List D} {k : D → Wr → Prop} (h : Pst K W w (mkT xs w.S) k) : xs.length ≤ sizeLine ∧ ∀ w', w'.S = w.S → Ex w w' → Wd K w' → k (.tup xs) w' := by
  unfold PD.mkT at h
  by_cases hl : xs.length ≤ sizeLine
  · rw [if_pos hl] at h; exact ⟨hl, h⟩
  · rw [if_neg hl] at h; exact h.elim
theorem Pst.mkL {K : Frag} {W : XK} {w : Wr} {xs : List D} {k : D → Wr → Prop} (h : Pst K W w (mkL xs w.S) k) : xs.length ≤ sizeLine ∧ ∀ w', w'.S = w.S → Ex w w' → Wd K w' → k (.lst xs) w' := by
  unfold PD.mkL at h
  by_cases hl : xs.length ≤ sizeLine
  · rw [if_pos hl] at h; exact ⟨hl, h⟩
  · rw [if_neg hl] at h; exact h.elim
def tupM (ms : Rho → M (List D)) : Rho → M D := fun ρ => ms ρ >>= fun xs => PD.mkT xs
def lstM (ms : Rho → M (List D)) : Rho → M D := fun ρ => ms ρ >>= fun xs => PD.mkL xs
theorem pd_tup {x1} (h : PDA X W es ms) : PDE X W (.Tuple es x1 pos) (tupM ms) := PE.imp (pe_tup h) fun σ H Q ⟨w, ρ, a, h⟩ =>
  tA_bind (f := fun _ xs => PD.mkT xs) a h fun ds vs w1 e1 a1 hvs h1 => by
    obtain ⟨hl, h2⟩ := Pst.mkT h1
    refine ⟨by rw [hvs.length]; exact hl, fun p hp => ?_⟩
    obtain ⟨w2, hS, hH, x2, d2, t2⟩ := new_tup a1.2.1 hp hvs hl
    have := h2 w2 hS x2 d2 _ t2
    rw [hH] at this
    exact this
theorem pd_lst (h : PDA X W es ms) : PDE X W (.List es pos) (lstM ms) := PE.imp (pe_lst h) fun σ H Q ⟨w, ρ, a, h⟩ =>
  tA_bind (f := fun _ xs => PD.mkL xs) a h fun ds vs w1 e1 a1 hvs h1 => by
    obtain ⟨hl, h2⟩ := Pst.mkL h1
    refine ⟨by rw [hvs.length]; exact hl, fun p hp => ?_⟩
    obtain ⟨w2, hS, hH, x2, d2, t2⟩ := new_lst a1.2.1 hp hvs hl
    have := h2 w2 hS x2 d2 _ t2
    rw [hH] at this
    exact this
def alloc (o : MO) : M D := fun S => .ok (.ob S.length) (S ++ [o])
def callM (K : Frag) (g : List MO → List D → Option D) : List V → Hp → VK → Prop := fun xs H Q => ∃ w dx d, w.H = H ∧ Wd K w ∧ Dts K w xs dx ∧ g w.S dx = some d ∧
  ∀ w' v, w'.S = w.S → Ex w w' → Wd K w' → Dt K w' v d → Q v w'.H
def opl (g : List MO → List D → Option D) (xs : List D) : M D := fun S => toRes (g S xs) S
theorem Pst.opl {K : Frag} {W : XK} {w : Wr} {g : List MO → List D → Option D} {x : List D} {k : D → Wr → Prop} (h : Pst K W w (opl g x w.S) k) : ∃ d, g w.S x = some d ∧ ∀ w', w'.S = w.S → Ex w w' → Wd K w' → k d w' := by
  unfold PD.opl at h
  cases e : g w.S x with
  | none => rw [e] at h; exact h.elim
  | some d => rw [e] at h; exact ⟨d, rfl, h⟩
def bltM (ms : Rho → M (List D)) (g : List MO → List D → Option D) : Rho → M D := fun ρ => ms ρ >>= fun xs => opl g xs
theorem tCB_of {K : Frag} {g : List MO → List D → Option D} {σ : L2.St} {H : Hp} {Q : VK} (h : tE K W (bltM ms g) σ H Q) : tCB (callM K g) (tA K W ms) σ H Q := by
  obtain ⟨w, ρ, a, h⟩ := h
  refine tA_bind (f := fun ρ xs => opl g xs) a h fun dx vx w1 e1 a1 hx h1 => ?_
  obtain ⟨d, e, q⟩ := Pst.opl h1
  exact ⟨w1, dx, d, rfl, a1.2.1, hx, e, fun w' v hS x d' hv => q w' hS x d' v hv⟩
theorem pd_blt {x : Str} {id : String} {g : List MO → List D → Option D} (hc : CallR X (.builtin id) (callM X.K g)) (hg : Gl X x) (hm : X.mg x = none) (hv : bootBuiltins x = some (.builtin id)) (ha : PDA X W (e :: es) ms) (hn : x ≠ "__name__" := by decide) (hdb : (x == ("__debug__" : Str)) = false := by decide)
    (hst : starEach (e :: es) X.env = (false, eval e X.env) :: starEach es X.env := by rfl) (hpl : (backTo pos (starEach es X.env)).any (·.1) = false := by rfl) : PDE X W (.Call (.Name x p) (e :: es) [] pos) (bltM ms g) :=
  PE.imp (pe_callB hc hg hm hv ha hn hdb hst hpl) fun _ _ _ h => tCB_of h
theorem pd_bty {x : Str} {T : String} {g : List MO → List D → Option D} (hc : CallR X (.type T) (callM X.K g)) (hg : Gl X x) (hm : X.mg x = none) (hv : bootBuiltins x = some (.type T)) (ha : PDA X W (e :: es) ms) (hn : x ≠ "__name__" := by decide) (hdb : (x == ("__debug__" : Str)) = false := by decide)
    (hst : starEach (e :: es) X.env = (false, eval e X.env) :: starEach es X.env := by rfl) (hpl : (backTo pos (starEach es X.env)).any (·.1) = false := by rfl) : PDE X W (.Call (.Name x p) (e :: es) [] pos) (bltM ms g) :=
  PE.imp (pe_callTy hc hg hm hv ha hn hdb hst hpl) fun _ _ _ h => tCB_of h
end
def kS (K : Frag) (Dn : Ends) : Fl → Wr → Prop
  | .nx ρ, w => ∀ σ, Lo K w σ ρ → Dn.nx σ w.H
  | .rt d, w => ∀ v, Dt K w v d → Dn.rt v w.H
  | .bk ρ, w => ∀ σ, Lo K w σ ρ → Dn.bk σ w.H
  | .ct ρ, w => ∀ σ, Lo K w σ ρ → Dn.ct σ w.H
def tS (K : Frag) (W : WX) (m : Rho → M Fl) : TS := fun Dn σ H => ∃ w ρ, At K w σ ρ H ∧ Pst K (WE W σ) w (m ρ w.S) (kS K Dn)
def PDS (X : Cx) (W : WX) (st : Stmt) (m : Rho → M Fl) : Prop := PS X st (tS X.K W m)
def PDSs (X : Cx) (W : WX) (sts : List Stmt) (m : Rho → M Fl) : Prop := PSs X sts (tS X.K W m)
/-- the wish about exceptions does not look at the slots -/
def Blind (W : WX) : Prop := ∀ c d σ σ' H, W c d σ H → W c d σ' H
theorem Pst.blind {K : Frag} {W : WX} (b : Blind W) {α : Type} {σ σ' : L2.St} {w : Wr} {r : Res α} {k : α → Wr → Prop} (h : Pst K (WE W σ) w r k) : Pst K (WE W σ') w r k := by
  cases r with
  | ok a S => exact h
  | exc C fs S => exact fun w' dd e x d q => b _ _ _ _ _ (h w' dd e x d q)
  | bad => exact h
section
variable {X : Cx} {W : WX} {st : Stmt} {rest body orelse : List Stmt} {e c : Expr} {m : Rho → M D} {t : Rho → M Bool} {ms ns : Rho → M Fl} {pos : Pos}
def retS (m : Rho → M D) : Rho → M Fl := fun ρ => m ρ >>= fun d => pure (.rt d)
def dropS (m : Rho → M D) : Rho → M Fl := fun ρ => m ρ >>= fun _ => pure (.nx ρ)
def setS (i : Nat) (m : Rho → M D) : Rho → M Fl := fun ρ => m ρ >>= fun d => pure (.nx (ρ.set i (some d)))
def ifS (t : Rho → M Bool) (ms ns : Rho → M Fl) : Rho → M Fl := fun ρ => t ρ >>= fun b => if b = true then ms ρ else ns ρ
def thenF (n : Rho → M Fl) : Fl → M Fl
  | .nx ρ => n ρ
  | f => pure f
def seqS (ms ns : Rho → M Fl) : Rho → M Fl := fun ρ => ms ρ >>= thenF ns
def skipS : Rho → M Fl := fun ρ => pure (.nx ρ)
theorem pds_ret (he : PDE X W e m) : PDS X W (.Return (some e) pos) (retS m) := PS.imp (ps_ret he) fun Dn σ H ⟨w, ρ, a, h⟩ =>
  tE_bind (f := fun _ d => pure (Fl.rt d)) a h fun d v w1 e1 a1 hv h1 => h1 w1 rfl (Ex.refl _) a1.2.1 v hv
theorem pds_expr (he : PDE X W e m) (hs : swapsWith e none pos.line X.env = pure false := by rfl) : PDS X W (.Expr e pos) (dropS m) := PS.imp (ps_expr he hs) fun Dn σ H ⟨w, ρ, a, h⟩ =>
  tE_bind (f := fun ρ _ => pure (Fl.nx ρ)) a h fun d v w1 e1 a1 hv h1 => h1 w1 rfl (Ex.refl _) a1.2.1 σ a1.2.2
theorem pds_set (i : Nat) {x : Str} {pos' : Pos} (he : PDE X W e m) (hN : X.N.Nodup) (hi : X.N[i]? = some x := by rfl) (hx : Loc X.env.scope x := by first | exact Or.inl rfl | exact Or.inr rfl) (hs : swapsWith e (some (.Name x pos')) pos.line X.env = pure false := by rfl)
    (hf : X.fn x = true ∨ X.env.scope.names.lookup x = some .local := by first | exact .inl rfl | exact .inr rfl | assumption) : PDS X W (.Assign [.Name x pos'] e pos) (setS i m) := PS.imp (ps_set hN hi hx he hs hf) fun Dn σ H ⟨w, ρ, a, h⟩ =>
  tE_bind (f := fun ρ d => pure (Fl.nx (ρ.set i (some d)))) a h fun d v w1 e1 a1 hv h1 => h1 w1 rfl (Ex.refl _) a1.2.1 _ (a1.2.2.set hv)
theorem pds_if (hc : PDT X W c t) (ha : PDSs X W body ms) (hb : PDSs X W orelse ns) : PDS X W (.If c body orelse pos) (ifS t ms ns) := PS.imp (ps_if hc ha hb) fun Dn σ H ⟨w, ρ, a, h⟩ =>
  tT_bind (f := fun ρ b => if b = true then ms ρ else ns ρ) a h fun k w1 e1 a1 h1 => by
    cases k with
    | true => rw [if_pos rfl] at h1 ⊢; exact ⟨w1, ρ, a1, h1⟩
    | false => rw [if_neg Bool.false_ne_true] at h1 ⊢; exact ⟨w1, ρ, a1, h1⟩
theorem pdss_nil : PDSs X W [] skipS := PSs.imp pss_nil fun Dn σ H ⟨w, ρ, a, h⟩ => by
  have := h w rfl (Ex.refl _) a.2.1 σ a.2.2
  rw [a.1] at this
  exact this
theorem pdss_one (h : PDS X W st ms) : PDSs X W [st] ms := pss_one h
theorem pdss_cons (bl : Blind W) (h : PDS X W st ms) (hr : PDSs X W rest ns) : PDSs X W (st :: rest) (seqS ms ns) := PSs.imp (pss_cons h hr) fun Dn σ H ⟨w, ρ, a, h⟩ =>
  ⟨w, ρ, a, (Pst.bind h).mono fun f w1 e1 d1 h1 => by
    cases f with
    | nx ρ' => exact fun σ' l' => ⟨w1, ρ', ⟨rfl, d1, l'⟩, Pst.blind bl h1⟩
    | rt d => exact h1 w1 rfl (Ex.refl _) d1
    | bk ρ' => exact h1 w1 rfl (Ex.refl _) d1
    | ct ρ' => exact h1 w1 rfl (Ex.refl _) d1⟩
end
def gM (K : Frag) (W : WX) (g : D → Rho → M Rho) : TG := fun v σ H Q => ∃ w ρ d, At K w σ ρ H ∧ Dt K w v d ∧ Pst K (WE W σ) w (g d ρ w.S) (fun ρ' w' => ∀ σ', Lo K w' σ' ρ' → Q σ' w'.H)
def gsM (K : Frag) (W : WX) (g : List D → Rho → M Rho) : TGs := fun vs σ H Q => ∃ w ρ ds, At K w σ ρ H ∧ Dts K w vs ds ∧ Pst K (WE W σ) w (g ds ρ w.S) (fun ρ' w' => ∀ σ', Lo K w' σ' ρ' → Q σ' w'.H)
def PDG (X : Cx) (W : WX) (tg : Expr) (g : D → Rho → M Rho) : Prop := PG X tg (gM X.K W g)
def PDGs (X : Cx) (W : WX) (ts : List Expr) (g : List D → Rho → M Rho) : Prop := PGs X ts (gsM X.K W g)
theorem PG.imp {X : Cx} {e : Expr} {t t' : TG} (h : PG X e t) (i : ∀ v σ H Q, t' v σ H Q → t v σ H Q) : PG X e t' := ⟨fun pins s σ H v u Q I r q => h.run pins s σ H v u Q I r (i _ _ _ _ q)⟩
theorem PGs.imp {X : Cx} {es : List Expr} {t t' : TGs} (h : PGs X es t) (i : ∀ v σ H Q, t' v σ H Q → t v σ H Q) : PGs X es t' := ⟨fun pins s σ H v u Q I r q => h.run pins s σ H v u Q I r (i _ _ _ _ q)⟩
section
variable {X : Cx} {W : WX} {pos : Pos} {e : Expr} {es : List Expr} {g : D → Rho → M Rho} {gs : List D → Rho → M Rho}
def gSet (i : Nat) : D → Rho → M Rho := fun d ρ => pure (ρ.set i (some d))
theorem pdg_name (i : Nat) {x : Str} (hN : X.N.Nodup) (hi : X.N[i]? = some x := by rfl) (hx : Loc X.env.scope x := by first | exact Or.inl rfl | exact Or.inr rfl) (hf : X.fn x = true ∨ X.env.scope.names.lookup x = some .local := by first | exact .inl rfl | exact .inr rfl | assumption) :
    PDG X W (.Name x pos) (gSet i) := PG.imp (pg_name hN hi hx hf) fun v σ H Q ⟨w, ρ, d, a, hv, h⟩ => by
  have := h w rfl (Ex.refl _) a.2.1 _ (a.2.2.set hv)
  rw [a.1] at this
  exact this
def gNilM : List D → Rho → M Rho := fun ds ρ => match ds with
  | [] => pure ρ
  | _ => bad
def gConsM (g : D → Rho → M Rho) (gs : List D → Rho → M Rho) : List D → Rho → M Rho := fun ds ρ => match ds with
  | d :: ds => g d ρ >>= fun ρ' => gs ds ρ'
  | [] => bad
theorem pdgs_nil : PDGs X W [] gNilM := PGs.imp pgs_nil fun vs σ H Q ⟨w, ρ, ds, a, hv, h⟩ => by
  cases ds with
  | nil =>
    cases hv
    have := h w rfl (Ex.refl _) a.2.1 σ a.2.2
    rw [a.1] at this
    exact ⟨rfl, this⟩
  | cons d ds => exact h.elim
theorem pdgs_cons (bl : Blind W) (h : PDG X W e g) (hr : PDGs X W es gs) (hs : (assignEach (e :: es) X.env).map (·.2) = assign e X.env :: (assignEach es X.env).map (·.2) := by rfl) : PDGs X W (e :: es) (gConsM g gs) := PGs.imp (pgs_cons h hr hs) fun vs σ H Q ⟨w, ρ, ds, a, hv, h⟩ => by
  cases ds with
  | nil => exact h.elim
  | cons d ds =>
    cases hv with
    | cons h1 h2 =>
      refine ⟨_, _, rfl, w, ρ, d, a, h1, (Pst.bind (m := g d ρ) (f := fun ρ' => gs ds ρ') h).mono fun ρ' w1 e1 d1 q1 σ' l' => ?_⟩
      exact ⟨w1, ρ', ds, ⟨rfl, d1, l'⟩, Dts.ex e1 h2, Pst.blind bl q1⟩
def asgS (m : Rho → M D) (g : D → Rho → M Rho) : Rho → M Fl := fun ρ => m ρ >>= fun d => g d ρ >>= fun ρ' => pure (.nx ρ')
end
mutual
theorem Dat.closed {K : Frag} {ι : Nat → Addr} {N : Nat} {B : Hp} : ∀ {v : V} {d : D}, Dat K ι N B v d → d.cl N = true
  | _, _, .non => rfl
  | _, _, .bl b => rfl
  | _, _, .int i => rfl
  | _, _, .str x h => rfl
  | _, _, .ty n => rfl
  | _, _, .ref a => rfl
  | _, _, .tup q _ t => Dats.closed t
  | _, _, .tz q _ _ t => Dats.closed t
  | _, _, .lst q _ t => Dats.closed t
  | _, _, .fl q _ t => Dats.closed t
  | _, _, .dk q l _ t => Dats.closed t
  | _, _, .dt q l _ t => Dats.closed t
  | _, _, .ins q l t => Dats.closed t
  | _, _, .ob n h => decide_eq_true h
  | _, _, .lam _ t => Dats.closed t
  | _, _, .xo _ _ _ _ t => Dats.closed t
theorem Dats.closed {K : Frag} {ι : Nat → Addr} {N : Nat} {B : Hp} : ∀ {vs : List V} {ds : List D}, Dats K ι N B vs ds → D.clAll N ds = true
  | _, _, .nil => rfl
  | _, _, .cons h t => by simp only [D.clAll, Dat.closed h, Dats.closed t, Bool.and_self]
end
theorem Wd.closed {K : Frag} {w : Wr} (d : Wd K w) {n : Nat} {o : MO} (h : w.S[n]? = some o) : o.cl w.S.length = true := by
  have q := d.ob n o h
  cases o with
  | ml xs => obtain ⟨_, _, t⟩ := q; exact t.closed
  | mk _ _ => obtain ⟨_, _, _, t⟩ := q; exact t.closed
  | mt _ _ => obtain ⟨_, _, _, t⟩ := q; exact t.closed
  | mi _ _ _ => obtain ⟨_, _, _, _, t⟩ := q; exact t.closed
  | tb _ _ => rfl
mutual
theorem Dat.fits {K : Frag} {ι : Nat → Addr} {N : Nat} {B : Hp} : ∀ {v : V} {d : D}, Dat K ι N B v d → d.fit = true
  | _, _, .non => rfl
  | _, _, .bl b => rfl
  | _, _, .int i => rfl
  | _, _, .str x h => decide_eq_true h
  | _, _, .ty n => rfl
  | _, _, .ref a => rfl
  | _, _, .tup q l t => by simp only [D.fit, decide_eq_true l, Dats.fits t, Bool.and_self]
  | _, _, .tz q _ l t => by simp only [D.fit, decide_eq_true l, Dats.fits t, Bool.and_self]
  | _, _, .lst q l t => by simp only [D.fit, decide_eq_true l, Dats.fits t, Bool.and_self]
  | _, _, .fl q l t => by simp only [D.fit, decide_eq_true l, Dats.fits t, Bool.and_self]
  | _, _, .dk q _ l t => by simp only [D.fit, decide_eq_true l, Dats.fits t, Bool.and_self]
  | _, _, .dt q _ l t => by simp only [D.fit, decide_eq_true l, Dats.fits t, Bool.and_self]
  | _, _, .ins q l t => Dats.fits t
  | _, _, .ob n h => rfl
  | _, _, .lam _ t => Dats.fits t
  | _, _, .xo _ _ _ _ t => Dats.fits t
theorem Dats.fits {K : Frag} {ι : Nat → Addr} {N : Nat} {B : Hp} : ∀ {vs : List V} {ds : List D}, Dats K ι N B vs ds → D.fitAll ds = true
  | _, _, .nil => rfl
  | _, _, .cons h t => by simp only [D.fitAll, Dat.fits h, Dats.fits t, Bool.and_self]
end
theorem Le.refl {n : Nat} {r : Res D} : Le n r r := ⟨fun _ h => h⟩
theorem Le.of_eq {n : Nat} {r r' : Res D} (e : r = r') : Le n r r' := by subst e; exact Le.refl
section
variable {K : Frag} {ι : Nat → Addr} {N M : Nat} {B B2 H : Hp} {g : List MO}
mutual
theorem Frz.dat (hB : ∀ a o, B a = some o → B2 a = some o)
    (hg : ∀ i o, g[i]? = some o → B2 (ι (N + i)) = H (ι (N + i)) ∧ MOk K ⟨ι, B, List.replicate M (.ml []), H⟩ (ι (N + i)) o) :
    ∀ {d e : D} {v : V}, Frz N g d e → Dat K ι M B v d → Dat K ι N B2 v e
  | _, _, _, .base c, h => Dat.mono (Nat.le_refl _) (fun _ _ => rfl) hB (Dat.cl h c)
  | _, _, _, .ml e l t, .ob _ _ => by
    obtain ⟨b1, vs, e1, t1⟩ := hg _ _ e
    have e1 : H (ι (N + _)) = some (.lst vs) := e1
    have t1 : Dats K ι _ B vs _ := t1
    rw [List.length_replicate] at t1
    exact .lst (b1.trans e1) l (Frzs.dats hB hg t t1)
  | _, _, _, .mk e l t, .ob _ _ => by
    obtain ⟨b1, vs, e1, z, t1⟩ := hg _ _ e
    have t1 : Dats K ι _ B vs _ := t1
    rw [List.length_replicate] at t1
    exact .dk (b1.trans e1) z l (Frzs.dats hB hg t t1)
  | _, _, _, .mt e l t, .ob _ _ => by
    obtain ⟨b1, vs, e1, z, t1⟩ := hg _ _ e
    have t1 : Dats K ι _ B vs _ := t1
    rw [List.length_replicate] at t1
    exact .dt (b1.trans e1) z l (Frzs.dats hB hg t t1)
  | _, _, _, .mi e t, .ob _ _ => by
    obtain ⟨b1, dx, vs, e1, z, t1⟩ := hg _ _ e
    have t1 : Dats K ι _ B vs _ := t1
    rw [List.length_replicate] at t1
    exact .ins (b1.trans e1) z (Frzs.dats hB hg t t1)
  | _, _, _, .tup t, .tup q l u => .tup (SqT.same hB q) (t.length ▸ l) (Frzs.dats hB hg t u)
  | _, _, _, .tz t, .tz q z l u => .tz (hB _ _ q) z (t.length ▸ l) (Frzs.dats hB hg t u)
  | _, _, _, .lst t, .lst q l u => .lst (hB _ _ q) (t.length ▸ l) (Frzs.dats hB hg t u)
  | _, _, _, .fl t, .fl q l u => .fl (SqL.same hB q) (t.length ▸ l) (Frzs.dats hB hg t u)
  | _, _, _, .dk t, .dk q z l u => .dk (hB _ _ q) z (t.length ▸ l) (Frzs.dats hB hg t u)
  | _, _, _, .dt t, .dt q z l u => .dt (hB _ _ q) z (t.length ▸ l) (Frzs.dats hB hg t u)
  | _, _, _, .ins t, .ins q z u => .ins (hB _ _ q) z (Frzs.dats hB hg t u)
theorem Frzs.dats (hB : ∀ a o, B a = some o → B2 a = some o)
    (hg : ∀ i o, g[i]? = some o → B2 (ι (N + i)) = H (ι (N + i)) ∧ MOk K ⟨ι, B, List.replicate M (.ml []), H⟩ (ι (N + i)) o) :
    ∀ {ds es : List D} {vs : List V}, Frzs N g ds es → Dats K ι M B vs ds → Dats K ι N B2 vs es
  | _, _, _, .nil, .nil => .nil
  | _, _, _, .cons h t, .cons u us => .cons (Frz.dat hB hg h u) (Frzs.dats hB hg t us)
end
end
theorem Wd.shrink {K : Frag} {w w' : Wr} {S g : List MO} (hS : w'.S = S ++ g) (x : Ex w w') (d : Wd K w') (hn : w.S.length ≤ S.length) (c : SCl S) : Wd K { w' with S := S } ∧ Ex w { w' with S := S } := by
  have hl : S.length ≤ w'.S.length := by rw [hS, List.length_append]; omega
  refine ⟨⟨d.fz, fun n hn' => d.sp n (Nat.lt_of_lt_of_le hn' hl), fun n o h => ?_, fun n m h1 h2 => d.inj n m (Nat.lt_of_lt_of_le h1 hl) (Nat.lt_of_lt_of_le h2 hl)⟩, ⟨hn, x.io, x.fz, x.nw, fun n h1 h2 => x.ni n h1 (Nat.lt_of_lt_of_le h2 hl), x.kp⟩⟩
  have h : S[n]? = some o := h
  have hnS : n < S.length := (List.getElem?_eq_some_iff.mp h).1
  have q := d.ob n o (by rw [hS, List.getElem?_append_left hnS]; exact h)
  have cc := c n o h
  cases o with
  | ml xs => obtain ⟨vs, e, t⟩ := q; exact ⟨vs, e, Dats.cl t cc⟩
  | mk _ _ => obtain ⟨vs, e, l, t⟩ := q; exact ⟨vs, e, l, Dats.cl t cc⟩
  | mt _ _ => obtain ⟨vs, e, l, t⟩ := q; exact ⟨vs, e, l, Dats.cl t cc⟩
  | mi _ _ _ => obtain ⟨dx, vs, e, l, t⟩ := q; exact ⟨dx, vs, e, l, Dats.cl t cc⟩
  | tb _ _ => exact MOk.tbm q rfl fun _ _ z => z
/-- all that is new stands still from now on -/
theorem Wd.frz {K : Frag} {w w' : Wr} {S g : List MO} (hS : w'.S = S ++ g) (x : Ex w w') (d : Wd K w') (hn : w.S.length ≤ S.length) (c : SCl S) :
    ∃ w2 : Wr, w2.S = S ∧ w2.H = w'.H ∧ Ex w w2 ∧ Wd K w2 ∧ (∀ {e e' : D} {v : V}, Frz S.length g e e' → Dt K w' v e → Dt K w2 v e') ∧ (∀ {es es' : List D} {vs : List V}, Frzs S.length g es es' → Dts K w' vs es → Dts K w2 vs es') := by
  classical
  have hl : w'.S.length = S.length + g.length := by rw [hS, List.length_append]
  have ⟨d2, x2⟩ := Wd.shrink hS x d hn c
  let B2 : Hp := fun a => if ∃ i, S.length ≤ i ∧ i < w'.S.length ∧ a = w'.ι i then w'.H a else w'.B a
  have bN : ∀ i, S.length ≤ i → i < w'.S.length → B2 (w'.ι i) = w'.H (w'.ι i) := fun i h1 h2 => if_pos ⟨i, h1, h2, rfl⟩
  have up : ∀ a o, w'.B a = some o → B2 a = some o := fun a o q => by
    show (if _ then _ else _) = _
    split
    · rename_i z
      obtain ⟨i, h1, h2, rfl⟩ := z
      rw [d.sp i h2] at q; cases q
    · exact q
  have inH : ∀ a o, B2 a = some o → w'.H a = some o := fun a o q => by
    have q : (if ∃ i, S.length ≤ i ∧ i < w'.S.length ∧ a = w'.ι i then w'.H a else w'.B a) = some o := q
    split at q
    · exact q
    · exact d.fz _ _ q
  have mv : ∀ {vs : List V} {ds : List D}, Dts K { w' with S := S } vs ds → Dts K { w' with B := B2, S := S } vs ds := fun t => Dats.mono (Nat.le_refl _) (fun _ _ => rfl) up t
  have hg : ∀ i o, g[i]? = some o → B2 (w'.ι (S.length + i)) = w'.H (w'.ι (S.length + i)) ∧ MOk K ⟨w'.ι, w'.B, List.replicate w'.S.length (.ml []), w'.H⟩ (w'.ι (S.length + i)) o := fun i o e => by
    have hi : i < g.length := (List.getElem?_eq_some_iff.mp e).1
    refine ⟨bN _ (Nat.le_add_right _ _) (by omega), ?_⟩
    have q := d.ob (S.length + i) o (by rw [hS, List.getElem?_append_right (Nat.le_add_right _ _), Nat.add_sub_cancel_left]; exact e)
    cases o with
    | ml _ => obtain ⟨vs, e, t⟩ := q; exact ⟨vs, e, by show Dats K _ (List.replicate _ _).length _ _ _; rw [List.length_replicate]; exact t⟩
    | mk _ _ => obtain ⟨vs, e, l, t⟩ := q; exact ⟨vs, e, l, by show Dats K _ (List.replicate _ _).length _ _ _; rw [List.length_replicate]; exact t⟩
    | mt _ _ => obtain ⟨vs, e, l, t⟩ := q; exact ⟨vs, e, l, by show Dats K _ (List.replicate _ _).length _ _ _; rw [List.length_replicate]; exact t⟩
    | mi _ _ _ => obtain ⟨dx, vs, e, l, t⟩ := q; exact ⟨dx, vs, e, l, by show Dats K _ (List.replicate _ _).length _ _ _; rw [List.length_replicate]; exact t⟩
    | tb _ _ => exact MOk.tbm q rfl fun _ _ z => z
  refine ⟨{ w' with B := B2, S := S }, rfl, rfl, ⟨hn, x.io, fun a o q => up a o (x.fz a o q), fun a o q => ?_, x2.ni, x.kp⟩, ⟨inH, fun n hn' => ?_, fun n o q => ?_, d2.inj⟩, fun f t => Frz.dat up hg f t, fun f t => Frzs.dats up hg f t⟩
  · have q : (if ∃ i, S.length ≤ i ∧ i < w'.S.length ∧ a = w'.ι i then w'.H a else w'.B a) = some o := q
    split at q
    · rename_i z
      obtain ⟨i, h1, h2, rfl⟩ := z
      exact .inr (x.ni i (Nat.le_trans hn h1) h2)
    · exact x.nw a o q
  · have hn' : n < S.length := hn'
    show (if ∃ i, S.length ≤ i ∧ i < w'.S.length ∧ w'.ι n = w'.ι i then w'.H (w'.ι n) else w'.B (w'.ι n)) = none
    rw [if_neg]
    · exact d.sp n (by omega)
    · rintro ⟨i, h1, h2, z⟩
      have := d.inj n i (by omega) h2 z
      omega
  · have q2 := d2.ob n o q
    cases o with
    | ml _ => obtain ⟨us, e, t⟩ := q2; exact ⟨us, e, mv t⟩
    | mk _ _ => obtain ⟨us, e, l, t⟩ := q2; exact ⟨us, e, l, mv t⟩
    | mt _ _ => obtain ⟨us, e, l, t⟩ := q2; exact ⟨us, e, l, mv t⟩
    | mi _ _ _ => obtain ⟨dx, us, e, l, t⟩ := q2; exact ⟨dx, us, e, l, mv t⟩
    | tb _ _ => exact MOk.tbm q2 rfl up
theorem Le.frz {n : Nat} {d e : D} {S g : List MO} (hn : n ≤ S.length) (c : SCl S) (f : Frz S.length g d e) : Le n (.ok e S) (.ok d (S ++ g)) := ⟨fun {K W w Q} hw h w' hS x dw v hv => by
  obtain ⟨w2, s2, h2, x2, d2, k, _⟩ := Wd.frz hS x dw (by omega) c
  have := h w2 s2 x2 d2 v (k f hv)
  rw [h2] at this
  exact this⟩
theorem Le.drop {n : Nat} {d : D} {S g : List MO} (hn : n ≤ S.length) (hd : d.cl S.length = true) (c : SCl S) : Le n (.ok d S) (.ok d (S ++ g)) := Le.frz hn c (.base hd)
theorem Le.settle {n : Nat} {xs : List D} {S g : List MO} (hn : n ≤ S.length) (hx : D.clAll S.length xs = true) (c : SCl S) (hl : xs.length ≤ sizeLine) : Le n (.ok (.lst xs) S) (.ok (.ob S.length) (S ++ .ml xs :: g)) :=
  Le.frz (d := .ob (S.length + 0)) hn c (.ml (by rfl) hl (Frzs.all hx))
/-- what a def promises: called with n data it is worth F -/
def spM (K : Frag) (n : Nat) (F : List D → M D) : Sp := fun vs H Q E => ∃ w ds, w.H = H ∧ Wd K w ∧ Dts K w vs ds ∧ ds.length = n ∧ Pst K E w (F ds w.S) (kE K Q)
def retF : Fl → M D
  | .rt d => pure d
  | .nx _ => pure .non
  | _ => bad
/-- the slots at a def's entry -/
def rho0 (n : Nat) (ds : List D) : Rho := ds.map some ++ List.replicate (n - ds.length) none
theorem Lo.start {K : Frag} {w : Wr} {N : List Str} {vs : List V} {ds : List D} (t : Dts K w vs ds) : Lo K w (L2.start N vs) (rho0 N.length ds) := by
  have hl := t.length
  refine ⟨by simp [L2.start, rho0, hl], fun i d h => ?_⟩
  unfold rho0 at h
  by_cases hi : i < ds.length
  · rw [List.getElem?_append_left (by simpa using hi), List.getElem?_map] at h
    cases e : ds[i]? with
    | none => rw [e] at h; cases h
    | some d' =>
      rw [e] at h
      cases h
      obtain ⟨v, e1, r⟩ := t.get e
      refine ⟨v, ?_, r⟩
      unfold L2.start
      rw [List.getElem?_append_left (by simpa [hl] using hi), List.getElem?_map, e1]
      rfl
  · rw [List.getElem?_append_right (by simpa using Nat.not_lt.mp hi), List.getElem?_replicate] at h
    split at h <;> cases h
section
variable {P : Program} {w : World} {K : Frag} {mg : Str → Option Value} {base : Heap}
/-- THE RULE for a def -/
theorem def_ok {x qual : Str} {st : Stmt} {f : Addr} {fd : FuncData} {N ps : List Str} {k : Nat} {m : Rho → M Fl} {Fm : List D → M D} (F : Fun K x qual st f fd) (S : FnScope N ps (defScope st))
    (hbody : ∀ (cdv : Value) (A : Around) (outer : List Env) (s : Shared) (H : Hp) (E : XK), Room k (A.deeper (envOfC qual (defScope st) s.heap.objs.size f cdv)) →
      PDSs (cxOf (L2.CX P w) P w K mg base N qual (defScope st) f cdv A outer s H E) (fun c d _ H => E c d H) (defBody st) m)
    (hF : ∀ (ds : List D) (S : List MO), ds.length = ps.length → D.clAll S.length ds = true → D.fitAll ds = true → SCl S → Le S.length (Fm ds S) ((m (rho0 N.length ds) >>= retF) S)) : FnOk P w K mg base (L2.CX P w) (k + 1) f fd ps (spM K ps.length Fm) := by
  refine F.okX S (fun vs H Q E h => ?_) fun cdv A outer s H vs Q E hr h => ⟨_, hbody cdv A outer s H E hr, ?_⟩
  · obtain ⟨w, ds, _, _, t, hl, _⟩ := h
    rw [t.length, hl]
  · obtain ⟨w1, ds, rfl, d1, t, hl, h⟩ := h
    have h2 := Pst.le h (hF ds w1.S hl t.closed t.fits fun n o e => d1.closed e)
    refine ⟨w1, rho0 N.length ds, ⟨rfl, d1, Lo.start t⟩, ?_⟩
    show Pst K E w1 _ _
    refine (Pst.bind h2).mono fun fl w2 e2 d2 h3 => ?_
    cases fl with
    | rt d => exact h3 w2 rfl (Ex.refl _) d2
    | nx ρ => exact fun σ l => h3 w2 rfl (Ex.refl _) d2 _ .non
    | bk ρ => exact h3.elim
    | ct ρ => exact h3.elim
end
section
variable {X : Cx} {W : WX} {e : Expr} {es : List Expr} {ms : Rho → M (List D)} {F : List D → M D} {p pos : Pos} {k n : Nat} {f : Addr} {fd : FuncData} {ps : List Str} {x : Str}
def fnM (n : Nat) (F : List D → M D) (ms : Rho → M (List D)) : Rho → M D := fun ρ => ms ρ >>= fun xs => if xs.length = n then F xs else bad
theorem pd_call (G : FnOk X.prog X.w X.K X.mg X.base (L2.CX X.prog X.w) k f fd ps (spM X.K n F)) (hr : Room k X.A) (tk : Takes X W) (hg : Gl X x) (hm : X.mg x = some (.ref f)) (hk : PySem.W.keepIn X.K (.ref f) = true) (hb : Binds X.K fd ps [])
    (ha : PDA X W (e :: es) ms) (hdb : (x == ("__debug__" : Str)) = false := by decide) (he : starEach (e :: es) X.env = (false, eval e X.env) :: starEach es X.env := by rfl) (hpl : (backTo pos (starEach es X.env)).any (·.1) = false := by rfl) :
    PDE X W (.Call (.Name x p) (e :: es) [] pos) (fnM n F ms) := PE.imp (pe_callS G hr hg hm hk hb (passAt tk) ha hdb he hpl) fun σ H Q ⟨w, ρ, a, h⟩ =>
  tA_bind (f := fun ρ xs => if xs.length = n then F xs else bad) a h fun ds vs w1 e1 a1 hv h1 => by
    by_cases hl : ds.length = n
    · rw [if_pos hl] at h1
      exact ⟨w1, ds, rfl, a1.2.1, hv, hl, h1⟩
    · rw [if_neg hl] at h1; exact h1.elim
end
theorem Dat.int_of {K : Frag} {ι : Nat → Addr} {N : Nat} {B : Hp} {v : V} {i : Int} (h : Dat K ι N B v (.int i)) : v = .int i := by cases h; rfl
theorem Dat.str_of {K : Frag} {ι : Nat → Addr} {N : Nat} {B : Hp} {v : V} {i : Str} (h : Dat K ι N B v (.str i)) : v = .str i ∧ i.length ≤ sizeLine := by cases h; exact ⟨rfl, by assumption⟩
theorem Dat.tup_of {K : Frag} {ι : Nat → Addr} {N : Nat} {B : Hp} {v : V} {xs : List D} (h : Dat K ι N B v (.tup xs)) : ∃ a vs, v = .ref a ∧ SqT K B a vs ∧ Dats K ι N B vs xs := by cases h; exact ⟨_, _, rfl, by assumption, by assumption⟩
/-- a list that stands in the heap by itself -/
def lstOf (S : List MO) : D → Option (List D)
  | .lst xs => some xs
  | .ob n => match S[n]? with
    | some (.ml xs) => some xs
    | _ => none
  | _ => none
theorem lstOf_ok {K : Frag} {w : Wr} (d : Wd K w) {v : V} {x : D} {xs : List D} (h : Dt K w v x) (e : lstOf w.S x = some xs) : ∃ a vs, v = .ref a ∧ w.H a = some (.lst vs) ∧ Dts K w vs xs := by
  cases h with
  | lst q _ t => cases e; exact ⟨_, _, rfl, d.fz _ _ q, t⟩
  | ob n hn =>
    simp only [lstOf] at e
    cases q : w.S[n]? with
    | none => rw [q] at e; cases e
    | some o =>
      rw [q] at e
      cases o with
      | ml ys =>
        cases e
        obtain ⟨vs, e1, t⟩ := d.ob n _ q
        exact ⟨_, vs, rfl, e1, t⟩
      | _ => cases e
  | _ => cases e
section
variable {X : Cx}
/-- ints to a datum -/
def onI (p : Int → Int → Bool) (f : Int → Int → D) : List MO → D → D → Option D := fun _ x y => match x, y with
  | .int i, .int j => if p i j = true then some (f i j) else none
  | _, _ => none
theorem onI_some {p : Int → Int → Bool} {f : Int → Int → D} {S : List MO} {x y d : D} (h : onI p f S x y = some d) : ∃ i j, x = .int i ∧ y = .int j ∧ p i j = true ∧ d = f i j := by
  unfold onI at h
  split at h
  · split at h
    · cases h; exact ⟨_, _, rfl, rfl, by assumption, rfl⟩
    · cases h
  · cases h
theorem opI_ok {f : Value → Value → Sem Value} {p : Int → Int → Bool} {g : Int → Int → V} {gd : Int → Int → D} {C : Int → Int → Prop} (h : OpR X f (rI C g)) (hp : ∀ i j, p i j = true → C i j) (hg : ∀ (w : Wr) i j, Dt X.K w (g i j) (gd i j)) :
    OpR X f (opM X.K (onI p gd)) := OpR.imp h fun x y H Q ⟨w, dx, dy, d, e, wd, hx, hy, q, k⟩ => by
  obtain ⟨i, j, rfl, rfl, c, rfl⟩ := onI_some q
  subst e
  exact ⟨i, j, hx.int_of, hy.int_of, hp _ _ c, k w _ rfl (Ex.refl _) wd (hg w i j)⟩
theorem opI0_ok {f : Value → Value → Sem Value} {g : Int → Int → V} {gd : Int → Int → D} (h : OpR X f (rI0 g)) (hg : ∀ (w : Wr) i j, Dt X.K w (g i j) (gd i j)) :
    OpR X f (opM X.K (onI (fun _ _ => true) gd)) := OpR.imp h fun x y H Q ⟨w, dx, dy, d, e, wd, hx, hy, q, k⟩ => by
  obtain ⟨i, j, rfl, rfl, c, rfl⟩ := onI_some q
  subst e
  exact ⟨i, j, hx.int_of, hy.int_of, k w _ rfl (Ex.refl _) wd (hg w i j)⟩
abbrev aT : Int → Int → Bool := fun _ _ => true
abbrev subD := onI aT fun i j => .int (i - j)
theorem o_sub : OpR X (binaryOp .Sub) (opM X.K subD) := opI0_ok op_sub fun w i j => .int _
abbrev modD := onI (fun _ j => decide (0 < j)) fun i j => .int (i % j)
theorem o_mod : OpR X (binaryOp .Mod) (opM X.K modD) := opI_ok op_mod (fun _ _ h => of_decide_eq_true h) fun w i j => .int _
abbrev fdivD := onI (fun _ j => decide (0 < j ∧ j < 1073741824)) fun i j => .int (i / j)
theorem o_fdiv : OpR X (binaryOp .FloorDiv) (opM X.K fdivD) := opI_ok op_fdiv (fun i j h => show CDiv i j from of_decide_eq_true (p := 0 < j ∧ j < 1073741824) h) fun w i j => .int _
/-- + -/
def addD (S : List MO) (x y : D) : Option D := match x, y with
  | .int i, .int j => some (.int (i + j))
  | .str a, .str b => if a.length + b.length ≤ sizeLine then some (.str (a ++ b)) else none
  | .tup xs, .tup ys => if xs.length + ys.length ≤ sizeLine then some (.tup (xs ++ ys)) else none
  | x, y => match lstOf S x, lstOf S y with
    | some xs, some ys => if xs.length + ys.length ≤ sizeLine then some (.lst (xs ++ ys)) else none
    | _, _ => none
theorem str_len_app (a b : Str) : (a ++ b).length = a.length + b.length := by
  show (a.cps ++ b.cps).size = a.cps.size + b.cps.size
  exact Array.size_append
theorem o_add : OpR X (binaryOp .Add) (opM X.K addD) := by
  intro pins s σ H x y v u Q I rx ry ⟨w, dx, dy, d, e, wd, hx, hy, q, k⟩
  subst e
  unfold addD at q
  split at q
  · cases q
    exact op_add pins s σ _ x y v u Q I rx ry ⟨_, _, hx.int_of, hy.int_of, k w _ rfl (Ex.refl _) wd (.int _)⟩
  · split at q
    · rename_i hl
      cases q
      exact op_add_str pins s σ _ x y v u Q I rx ry ⟨_, _, hx.str_of.1, hy.str_of.1, hl, k w _ rfl (Ex.refl _) wd (.str _ (by rw [str_len_app]; exact hl))⟩
    · cases q
  · split at q
    · rename_i xs ys hl
      cases q
      obtain ⟨a, vs, rfl, qa, ta⟩ := hx.tup_of
      obtain ⟨b, us, rfl, qb, tb⟩ := hy.tup_of
      refine op_catA pins s σ _ _ _ v u Q I rx ry ⟨a, b, vs, us, rfl, rfl, SqT.same wd.fz qa, SqT.same wd.fz qb, by rw [ta.length, tb.length]; exact hl, fun z => ?_, fun _ z => ?_, fun _ _ p hp => ?_⟩
      · subst z
        cases ta
        exact k w _ rfl (Ex.refl _) wd hy
      · subst z
        cases tb
        rw [List.append_nil] at k
        exact k w _ rfl (Ex.refl _) wd hx
      · obtain ⟨w2, hS, hH, x2, d2, t2⟩ := new_tup wd hp (ta.append tb) (by rw [List.length_append]; exact hl)
        have := k w2 _ hS x2 d2 t2
        rw [hH] at this
        exact this
    · cases q
  · split at q
    · rename_i xs ys e1 e2
      split at q
      · rename_i hl
        cases q
        obtain ⟨a, vs, rfl, qa, ta⟩ := lstOf_ok wd hx e1
        obtain ⟨b, us, rfl, qb, tb⟩ := lstOf_ok wd hy e2
        refine op_cat pins s σ _ _ _ v u Q I rx ry ⟨a, b, vs, us, rfl, rfl, qa, qb, by rw [ta.length, tb.length]; exact hl, fun p hp => ?_⟩
        obtain ⟨w2, hS, hH, x2, d2, t2⟩ := new_lst wd hp (ta.append tb) (by rw [List.length_append]; exact hl)
        have := k w2 _ hS x2 d2 t2
        rw [hH] at this
        exact this
      · cases q
    · cases q
/-- < and its kin: ints, texts -/
def ltD (_ : List MO) (x y : D) : Option D := match x, y with
  | .int i, .int j => some (.bl (decide (i < j)))
  | .str a, .str b => some (.bl (decide (a.cps.toList < b.cps.toList)))
  | _, _ => none
def leD (_ : List MO) (x y : D) : Option D := match x, y with
  | .int i, .int j => some (.bl (decide (i ≤ j)))
  | .str a, .str b => some (.bl (!decide (b.cps.toList < a.cps.toList)))
  | _, _ => none
def gtD (_ : List MO) (x y : D) : Option D := match x, y with
  | .int i, .int j => some (.bl (decide (j < i)))
  | .str a, .str b => some (.bl (decide (b.cps.toList < a.cps.toList)))
  | _, _ => none
def geD (_ : List MO) (x y : D) : Option D := match x, y with
  | .int i, .int j => some (.bl (decide (j ≤ i)))
  | .str a, .str b => some (.bl (!decide (a.cps.toList < b.cps.toList)))
  | _, _ => none
theorem opS2 {f : Value → Value → Sem Value} {g : Str → Str → Bool} (rule : ∀ {prog : Program} {w : World} {A : Around} {E : Value → Shared → Prop} {s : Shared} {x y : Str} {t u : Tok} {Q : Value → Shared → Prop}, Q (.bool (g x y)) s → wpAny (model prog w) A (f (.str x t) (.str y u)) Q E s) :
    OpR X f (fun x y H Q => ∃ i j, x = .str i ∧ y = .str j ∧ Q (.bl (g i j)) H) := by
  intro pins s σ H x y v u Q I rx ry ⟨i, j, e1, e2, q⟩
  subst e1; subst e2
  obtain ⟨t, rfl⟩ := rx
  obtain ⟨t', rfl⟩ := ry
  exact rule ⟨.bl _, H, I, rfl, q⟩
theorem o_lt : OpR X (compareOp .Lt) (opM X.K ltD) := by
  intro pins s σ H x y v u Q I rx ry ⟨w, dx, dy, d, e, wd, hx, hy, q, k⟩
  subst e
  unfold ltD at q
  split at q
  · cases q; exact op_lt pins s σ _ x y v u Q I rx ry ⟨_, _, hx.int_of, hy.int_of, k w _ rfl (Ex.refl _) wd (.bl _)⟩
  · cases q; exact op_lt_str pins s σ _ x y v u Q I rx ry ⟨_, _, hx.str_of.1, hy.str_of.1, k w _ rfl (Ex.refl _) wd (.bl _)⟩
  · cases q
theorem o_gt : OpR X (compareOp .Gt) (opM X.K gtD) := by
  intro pins s σ H x y v u Q I rx ry ⟨w, dx, dy, d, e, wd, hx, hy, q, k⟩
  subst e
  unfold gtD at q
  split at q
  · cases q; exact op_gt pins s σ _ x y v u Q I rx ry ⟨_, _, hx.int_of, hy.int_of, k w _ rfl (Ex.refl _) wd (.bl _)⟩
  · cases q; exact opS2 (g := fun a b => decide (b.cps.toList < a.cps.toList)) (fun h => PySem.P.gt_str h) pins s σ _ x y v u Q I rx ry ⟨_, _, hx.str_of.1, hy.str_of.1, k w _ rfl (Ex.refl _) wd (.bl _)⟩
  · cases q
end
/-- what is read as a datum -/
inductive RdvS (K : Frag) (H : Hp) (R : V → D → Prop) : V → D → Prop
  | non : RdvS K H R .non .non
  | bl (b : Bool) : RdvS K H R (.bl b) (.bl b)
  | int (i : Int) : RdvS K H R (.int i) (.int i)
  | str (x : Str) : RdvS K H R (.str x) (.str x)
theorem eqGs_range : ∀ xs ys : List D, ((List.range (min xs.length ys.length)).all (fun j => eqG (xs.getD j .non) (ys.getD j .non)) && xs.length == ys.length) = eqGs xs ys
  | [], [] => rfl
  | [], y :: ys => by simp [eqGs]
  | x :: xs, [] => by simp [eqGs]
  | x :: xs, y :: ys => by
    have ih := eqGs_range xs ys
    have e1 : min (x :: xs).length (y :: ys).length = min xs.length ys.length + 1 := by simp only [List.length_cons]; omega
    rw [e1, List.range_succ_eq_map, List.all_cons, List.all_map]
    show (eqG x y && _ && _) = (eqG x y && eqGs xs ys)
    rw [← ih, Bool.and_assoc]
    congr 2
    simp
theorem eqGs_len {xs ys : List D} (h : xs.length ≠ ys.length) : eqGs xs ys = false := by
  rw [← eqGs_range, beq_eq_false_iff_ne.mpr h, Bool.and_false]
section
variable {X : Cx} {pins : List (Addr × Obj)} {σ : L2.St} {H : Hp} {s : Shared}
theorem data_mem {n : Nat} : ∀ {ds : List D} {d : D}, D.dataAll n ds = true → d ∈ ds → D.data n d = true
  | x :: xs, d, h, hm => by
    simp only [D.dataAll, Bool.and_eq_true] at h
    rcases List.mem_cons.mp hm with rfl | hm
    · exact h.1
    · exact data_mem h.2 hm
def D.seq : D → Bool
  | .tup _ => true
  | .lst _ => true
  | .fl _ => true
  | _ => false
theorem rc_scal (I : Inv X pins σ H s) (d e : D) (A : Around) (v u : V) (a b : Value) (hd : d.seq = false) (hu0 : A.units < cLine) (h : Rdv X.K H v d) (g : Rdv X.K H u e) (ra : RelV v a) (rb : RelV u b) : SeqAt.RcAt A s a b (eqG d e) ∧ SeqAt.EqAt A s a b (eqG d e) := by
  cases h with
  | non =>
    cases ra
    cases g with
    | non => cases rb; exact ⟨.none_none, SeqAt.EqAt.same _⟩
    | bl y => cases rb; exact ⟨.none_bool y, .none_bool y⟩
    | int y => obtain ⟨t, rfl⟩ := rb; exact ⟨.none_int y t, .none_int y t⟩
    | str y => obtain ⟨t, rfl⟩ := rb; exact ⟨.none_str y t, .none_str y t⟩
    | tup q t => cases rb; obtain ⟨_, _, p, _⟩ := I.tuple q; exact ⟨.none_tuple p hu0, .none_tuple p hu0⟩
    | lst q t => cases rb; obtain ⟨_, _, p, _⟩ := I.list q; exact ⟨.none_list p.isList hu0, .none_list p.isList hu0⟩
    | fl q t => cases rb; obtain ⟨_, _, p, _⟩ := I.list q; exact ⟨.none_list p.isList hu0, .none_list p.isList hu0⟩
  | bl x =>
    cases ra
    cases g with
    | non => cases rb; exact ⟨.bool_none x, .bool_none x⟩
    | bl y => cases rb; exact ⟨.bool_bool x y, .bool_bool x y⟩
    | int y => obtain ⟨t, rfl⟩ := rb; exact ⟨.bool_int x y t, .bool_int x y t⟩
    | str y => obtain ⟨t, rfl⟩ := rb; exact ⟨.bool_str x y t, .bool_str x y t⟩
    | tup q t => cases rb; obtain ⟨_, _, p, _⟩ := I.tuple q; exact ⟨.bool_tuple x p hu0, .bool_tuple x p hu0⟩
    | lst q t => cases rb; obtain ⟨_, _, p, _⟩ := I.list q; exact ⟨.bool_list x p.isList hu0, .bool_list x p.isList hu0⟩
    | fl q t => cases rb; obtain ⟨_, _, p, _⟩ := I.list q; exact ⟨.bool_list x p.isList hu0, .bool_list x p.isList hu0⟩
  | int x =>
    obtain ⟨tx, rfl⟩ := ra
    cases g with
    | non => cases rb; exact ⟨.int_none x tx, .int_none x tx⟩
    | bl y => cases rb; exact ⟨.int_bool x tx y, .int_bool x tx y⟩
    | int y => obtain ⟨t, rfl⟩ := rb; exact ⟨.int_int x tx y t, .int_int x tx y t⟩
    | str y => obtain ⟨t, rfl⟩ := rb; exact ⟨.int_str x tx y t, .int_str x tx y t⟩
    | tup q t => cases rb; obtain ⟨_, _, p, _⟩ := I.tuple q; exact ⟨.int_tuple x tx p hu0, .int_tuple x tx p hu0⟩
    | lst q t => cases rb; obtain ⟨_, _, p, _⟩ := I.list q; exact ⟨.int_list x tx p.isList hu0, .int_list x tx p.isList hu0⟩
    | fl q t => cases rb; obtain ⟨_, _, p, _⟩ := I.list q; exact ⟨.int_list x tx p.isList hu0, .int_list x tx p.isList hu0⟩
  | str x =>
    obtain ⟨tx, rfl⟩ := ra
    cases g with
    | non => cases rb; exact ⟨.str_none x tx, .str_none x tx⟩
    | bl y => cases rb; exact ⟨.str_bool x tx y, .str_bool x tx y⟩
    | int y => obtain ⟨t, rfl⟩ := rb; exact ⟨.str_int x tx y t, .str_int x tx y t⟩
    | str y => obtain ⟨t, rfl⟩ := rb; exact ⟨.str_str x tx y t, .str_str x tx y t⟩
    | tup q t => cases rb; obtain ⟨_, _, p, _⟩ := I.tuple q; exact ⟨.str_tuple x tx p hu0, .str_tuple x tx p hu0⟩
    | lst q t => cases rb; obtain ⟨_, _, p, _⟩ := I.list q; exact ⟨.str_list x tx p.isList hu0, .str_list x tx p.isList hu0⟩
    | fl q t => cases rb; obtain ⟨_, _, p, _⟩ := I.list q; exact ⟨.str_list x tx p.isList hu0, .str_list x tx p.isList hu0⟩
  | tup q t => simp [D.seq] at hd
  | lst q t => simp [D.seq] at hd
  | fl q t => simp [D.seq] at hd
theorem rc_pair {A : Around} {l b : Addr} {k : Bool} (h : SeqAt.RcAt A s (.ref l) (.ref b) k) (he : l = b → k = true) : SeqAt.RcAt A s (.ref l) (.ref b) k ∧ SeqAt.EqAt A s (.ref l) (.ref b) k := by
  refine ⟨h, ?_⟩
  by_cases e : l = b
  · subst e
    rw [he rfl]
    exact SeqAt.EqAt.same _
  · exact SeqAt.EqAt.of_refs e h
theorem rc_lists (I : Inv X pins σ H s) {A : Around} {l b : Addr} {vs us : List V} {ds es : List D} (hu : A.units < cLine) (q : SqL X.K H l vs) (q2 : SqL X.K H b us) (t : Rdvs X.K H vs ds) (t2 : Rdvs X.K H us es)
    (ih : ∀ (d e : D) (v u : V) (a b : Value), d ∈ ds → Rdv X.K H v d → Rdv X.K H u e → RelV v a → RelV u b → SeqAt.EqAt A.in1 s a b (eqG d e)) : SeqAt.RcAt A s (.ref l) (.ref b) (eqGs ds es) := by
  obtain ⟨its, r1, p1, _⟩ := I.list q
  obtain ⟨its2, r2, p2, _⟩ := I.list q2
  have l1 : its.length = ds.length := r1.length.symm.trans t.length
  have l2 : its2.length = es.length := r2.length.symm.trans t2.length
  by_cases hl : ds.length = es.length
  · have h := SeqAt.RcAt.lists (A := A) (e := fun j => eqG (ds.getD j .non) (es.getD j .non)) p1.isList p2.isList (by rw [List.size_toArray, List.size_toArray]; omega) hu fun j h1 h2 => by
      rw [List.size_toArray] at h1 h2
      obtain ⟨v, e1, e2, e3⟩ := Rdvs.at (P := fun _ _ _ => True) t r1 j h1
      obtain ⟨u, f1, f2, _⟩ := Rdvs.at (P := fun _ _ _ => True) t2 r2 j h2
      exact ih _ _ v u _ _ e3 e1 f1 e2 f2
    have e : (List.range its.toArray.size).all (fun j => eqG (ds.getD j .non) (es.getD j .non)) = eqGs ds es := by
      rw [← eqGs_range, ← hl, Nat.min_self, List.size_toArray, l1, beq_self_eq_true, Bool.and_true]
    rw [e] at h
    exact h
  · rw [eqGs_len hl]
    exact SeqAt.RcAt.lists_lengths p1.isList p2.isList (by rw [List.size_toArray, List.size_toArray, l1, l2]; exact bne_iff_ne.mpr hl) hu
/-- == decides as eqG says -/
theorem rc_eqG (I : Inv X pins σ H s) : ∀ (n : Nat) (d e : D) (A : Around) (v u : V) (a b : Value), D.data n d = true → A.units + n < cLine → Rdv X.K H v d → Rdv X.K H u e → RelV v a → RelV u b → SeqAt.RcAt A s a b (eqG d e) ∧ SeqAt.EqAt A s a b (eqG d e) := by
  intro n
  induction n with
  | zero =>
    intro d e A v u a b hd hu h g ra rb
    refine rc_scal I d e A v u a b ?_ (Nat.lt_of_le_of_lt (Nat.le_add_right _ _) hu) h g ra rb
    cases d <;> first | rfl | (simp [D.data] at hd; done)
  | succ n ih =>
    intro d e A v u a b hd hu h g ra rb
    have hu0 : A.units < cLine := Nat.lt_of_le_of_lt (Nat.le_add_right _ _) hu
    have hu1 : A.in1.units + n < cLine := by show A.units + 1 + n < cLine; omega
    by_cases hs : d.seq = false
    · exact rc_scal I d e A v u a b hs hu0 h g ra rb
    have step : ∀ {ds : List D}, D.dataAll n ds = true → ∀ (d e : D) (v u : V) (a b : Value), d ∈ ds → Rdv X.K H v d → Rdv X.K H u e → RelV v a → RelV u b → SeqAt.EqAt A.in1 s a b (eqG d e) :=
      fun hds d e v u a b hm h g ra rb => (ih d e A.in1 v u a b (data_mem hds hm) hu1 h g ra rb).2
    have hh := h
    have gg := g
    cases h with
    | tup q t =>
      rename_i a0 vs ds
      cases ra
      have hds : D.dataAll n ds = true := by simpa [D.data] using hd
      obtain ⟨its, r1, p1, _⟩ := I.tuple q
      cases g with
      | non => cases rb; exact ⟨.tuple_none p1 hu0, .tuple_none p1 hu0⟩
      | bl y => cases rb; exact ⟨.tuple_bool y p1 hu0, .tuple_bool y p1 hu0⟩
      | int y => obtain ⟨t, rfl⟩ := rb; exact ⟨.tuple_int y t p1 hu0, .tuple_int y t p1 hu0⟩
      | str y => obtain ⟨t, rfl⟩ := rb; exact ⟨.tuple_str y t p1 hu0, .tuple_str y t p1 hu0⟩
      | lst q2 t2 => cases rb; obtain ⟨_, _, p2, _⟩ := I.list q2; exact ⟨.tuple_list p1 p2.isList hu0, .tuple_list p1 p2.isList hu0⟩
      | fl q2 t2 => cases rb; obtain ⟨_, _, p2, _⟩ := I.list q2; exact ⟨.tuple_list p1 p2.isList hu0, .tuple_list p1 p2.isList hu0⟩
      | tup q2 t2 =>
        rename_i b0 us es
        cases rb
        obtain ⟨its2, r2, p2, _⟩ := I.tuple q2
        have l1 : its.length = ds.length := r1.length.symm.trans t.length
        have l2 : its2.length = es.length := r2.length.symm.trans t2.length
        have h := SeqAt.RcAt.tuples (A := A) (e := fun j => eqG (ds.getD j .non) (es.getD j .non)) p1 p2 hu0 fun j h1 h2 => by
          rw [List.size_toArray] at h1 h2
          obtain ⟨v, e1, e2, e3⟩ := Rdvs.at (P := fun _ _ _ => True) t r1 j h1
          obtain ⟨u, f1, f2, _⟩ := Rdvs.at (P := fun _ _ _ => True) t2 r2 j h2
          exact step hds _ _ v u _ _ e3 e1 f1 e2 f2
        rw [List.size_toArray, List.size_toArray, l1, l2, eqGs_range] at h
        refine rc_pair h fun z => ?_
        subst z
        exact Rdv.same I (.tup ds) (.tup es) hh gg
    | lst q t =>
      rename_i a0 vs ds
      cases ra
      have hds : D.dataAll n ds = true := by simpa [D.data] using hd
      obtain ⟨its, r1, p1, _⟩ := I.list q
      cases g with
      | non => cases rb; exact ⟨.list_none p1.isList hu0, .list_none p1.isList hu0⟩
      | bl y => cases rb; exact ⟨.list_bool y p1.isList hu0, .list_bool y p1.isList hu0⟩
      | int y => obtain ⟨t, rfl⟩ := rb; exact ⟨.list_int y t p1.isList hu0, .list_int y t p1.isList hu0⟩
      | str y => obtain ⟨t, rfl⟩ := rb; exact ⟨.list_str y t p1.isList hu0, .list_str y t p1.isList hu0⟩
      | tup q2 t2 => cases rb; obtain ⟨_, _, p2, _⟩ := I.tuple q2; exact ⟨.list_tuple p1.isList p2 hu0, .list_tuple p1.isList p2 hu0⟩
      | lst q2 t2 =>
        cases rb
        refine rc_pair (rc_lists I hu0 q q2 t t2 (step hds)) fun z => ?_
        subst z
        exact Rdv.same I (.lst _) (.lst _) hh gg
      | fl q2 t2 =>
        cases rb
        refine rc_pair (rc_lists I hu0 q q2 t t2 (step hds)) fun z => ?_
        subst z
        exact Rdv.same I (.lst _) (.fl _) hh gg
    | fl q t =>
      rename_i a0 vs ds
      cases ra
      have hds : D.dataAll n ds = true := by simpa [D.data] using hd
      obtain ⟨its, r1, p1, _⟩ := I.list q
      cases g with
      | non => cases rb; exact ⟨.list_none p1.isList hu0, .list_none p1.isList hu0⟩
      | bl y => cases rb; exact ⟨.list_bool y p1.isList hu0, .list_bool y p1.isList hu0⟩
      | int y => obtain ⟨t, rfl⟩ := rb; exact ⟨.list_int y t p1.isList hu0, .list_int y t p1.isList hu0⟩
      | str y => obtain ⟨t, rfl⟩ := rb; exact ⟨.list_str y t p1.isList hu0, .list_str y t p1.isList hu0⟩
      | tup q2 t2 => cases rb; obtain ⟨_, _, p2, _⟩ := I.tuple q2; exact ⟨.list_tuple p1.isList p2 hu0, .list_tuple p1.isList p2 hu0⟩
      | lst q2 t2 =>
        cases rb
        refine rc_pair (rc_lists I hu0 q q2 t t2 (step hds)) fun z => ?_
        subst z
        exact Rdv.same I (.fl _) (.lst _) hh gg
      | fl q2 t2 =>
        cases rb
        refine rc_pair (rc_lists I hu0 q q2 t t2 (step hds)) fun z => ?_
        subst z
        exact Rdv.same I (.fl _) (.fl _) hh gg
    | non => simp [D.seq] at hs
    | bl _ => simp [D.seq] at hs
    | int _ => simp [D.seq] at hs
    | str _ => simp [D.seq] at hs
theorem rc_neLists (I : Inv X pins σ H s) {A : Around} {l b : Addr} {vs us : List V} {ds es : List D} (hu : A.units < cLine) (q : SqL X.K H l vs) (q2 : SqL X.K H b us) (t : Rdvs X.K H vs ds) (t2 : Rdvs X.K H us es)
    (ih : ∀ (d e : D) (v u : V) (a b : Value), d ∈ ds → Rdv X.K H v d → Rdv X.K H u e → RelV v a → RelV u b → SeqAt.EqAt A.in1 s a b (eqG d e)) : SeqAt.RcNeAt A s (.ref l) (.ref b) (!eqGs ds es) := by
  obtain ⟨its, r1, p1, _⟩ := I.list q
  obtain ⟨its2, r2, p2, _⟩ := I.list q2
  have l1 : its.length = ds.length := r1.length.symm.trans t.length
  have l2 : its2.length = es.length := r2.length.symm.trans t2.length
  by_cases hl : ds.length = es.length
  · have h := SeqAt.RcNeAt.lists (A := A) (e := fun j => eqG (ds.getD j .non) (es.getD j .non)) p1.isList p2.isList (by rw [List.size_toArray, List.size_toArray]; omega) hu fun j h1 h2 => by
      rw [List.size_toArray] at h1 h2
      obtain ⟨v, e1, e2, e3⟩ := Rdvs.at (P := fun _ _ _ => True) t r1 j h1
      obtain ⟨u, f1, f2, _⟩ := Rdvs.at (P := fun _ _ _ => True) t2 r2 j h2
      exact ih _ _ v u _ _ e3 e1 f1 e2 f2
    have e : (List.range its.toArray.size).all (fun j => eqG (ds.getD j .non) (es.getD j .non)) = eqGs ds es := by
      rw [← eqGs_range, ← hl, Nat.min_self, List.size_toArray, l1, beq_self_eq_true, Bool.and_true]
    rw [e] at h
    exact h
  · rw [eqGs_len hl]
    exact SeqAt.RcNeAt.lists_lengths p1.isList p2.isList (by rw [List.size_toArray, List.size_toArray, l1, l2]; exact bne_iff_ne.mpr hl) hu
theorem rc_neG (I : Inv X pins σ H s) (n : Nat) (d e : D) (A : Around) (v u : V) (a b : Value) (hd : D.data n d = true) (hu : A.units + n < cLine) (h : Rdv X.K H v d) (g : Rdv X.K H u e) (ra : RelV v a) (rb : RelV u b) : SeqAt.RcNeAt A s a b (!eqG d e) := by
  have hu0 : A.units < cLine := Nat.lt_of_le_of_lt (Nat.le_add_right _ _) hu
  cases h with
  | non =>
    cases ra
    cases g with
    | non => cases rb; exact SeqAt.RcNeAt.none_none
    | bl y => cases rb; exact .none_bool y
    | int y => obtain ⟨t, rfl⟩ := rb; exact .none_int y t
    | str y => obtain ⟨t, rfl⟩ := rb; exact .none_str y t
    | tup q t => cases rb; obtain ⟨_, _, p, _⟩ := I.tuple q; exact .none_tuple p hu0
    | lst q t => cases rb; obtain ⟨_, _, p, _⟩ := I.list q; exact .none_list p.isList hu0
    | fl q t => cases rb; obtain ⟨_, _, p, _⟩ := I.list q; exact .none_list p.isList hu0
  | bl x =>
    cases ra
    cases g with
    | non => cases rb; exact .bool_none x
    | bl y => cases rb; exact .bool_bool x y
    | int y => obtain ⟨t, rfl⟩ := rb; exact .bool_int x y t
    | str y => obtain ⟨t, rfl⟩ := rb; exact .bool_str x y t
    | tup q t => cases rb; obtain ⟨_, _, p, _⟩ := I.tuple q; exact .bool_tuple x p hu0
    | lst q t => cases rb; obtain ⟨_, _, p, _⟩ := I.list q; exact .bool_list x p.isList hu0
    | fl q t => cases rb; obtain ⟨_, _, p, _⟩ := I.list q; exact .bool_list x p.isList hu0
  | int x =>
    obtain ⟨tx, rfl⟩ := ra
    cases g with
    | non => cases rb; exact .int_none x tx
    | bl y => cases rb; exact .int_bool x tx y
    | int y => obtain ⟨t, rfl⟩ := rb; exact .int_int x tx y t
    | str y => obtain ⟨t, rfl⟩ := rb; exact .int_str x tx y t
    | tup q t => cases rb; obtain ⟨_, _, p, _⟩ := I.tuple q; exact .int_tuple x tx p hu0
    | lst q t => cases rb; obtain ⟨_, _, p, _⟩ := I.list q; exact .int_list x tx p.isList hu0
    | fl q t => cases rb; obtain ⟨_, _, p, _⟩ := I.list q; exact .int_list x tx p.isList hu0
  | str x =>
    obtain ⟨tx, rfl⟩ := ra
    cases g with
    | non => cases rb; exact .str_none x tx
    | bl y => cases rb; exact .str_bool x tx y
    | int y => obtain ⟨t, rfl⟩ := rb; exact .str_int x tx y t
    | str y => obtain ⟨t, rfl⟩ := rb; exact .str_str x tx y t
    | tup q t => cases rb; obtain ⟨_, _, p, _⟩ := I.tuple q; exact .str_tuple x tx p hu0
    | lst q t => cases rb; obtain ⟨_, _, p, _⟩ := I.list q; exact .str_list x tx p.isList hu0
    | fl q t => cases rb; obtain ⟨_, _, p, _⟩ := I.list q; exact .str_list x tx p.isList hu0
  | tup q t =>
    rename_i a0 vs ds
    cases ra
    have hds : D.dataAll (n - 1) ds = true ∧ 0 < n := by cases n with | zero => simp [D.data] at hd | succ n => exact ⟨by simpa [D.data] using hd, Nat.succ_pos _⟩
    have hu1 : A.in1.units + (n - 1) < cLine := by show A.units + 1 + (n - 1) < cLine; omega
    have step : ∀ (d e : D) (v u : V) (a b : Value), d ∈ ds → Rdv X.K H v d → Rdv X.K H u e → RelV v a → RelV u b → SeqAt.EqAt A.in1 s a b (eqG d e) :=
      fun d e v u a b hm h g ra rb => (rc_eqG I (n - 1) d e A.in1 v u a b (data_mem hds.1 hm) hu1 h g ra rb).2
    obtain ⟨its, r1, p1, _⟩ := I.tuple q
    cases g with
    | non => cases rb; exact .tuple_none p1 hu0
    | bl y => cases rb; exact .tuple_bool y p1 hu0
    | int y => obtain ⟨t, rfl⟩ := rb; exact .tuple_int y t p1 hu0
    | str y => obtain ⟨t, rfl⟩ := rb; exact .tuple_str y t p1 hu0
    | lst q2 t2 => cases rb; obtain ⟨_, _, p2, _⟩ := I.list q2; exact .tuple_list p1 p2.isList hu0
    | fl q2 t2 => cases rb; obtain ⟨_, _, p2, _⟩ := I.list q2; exact .tuple_list p1 p2.isList hu0
    | tup q2 t2 =>
      rename_i b0 us es
      cases rb
      obtain ⟨its2, r2, p2, _⟩ := I.tuple q2
      have l1 : its.length = ds.length := r1.length.symm.trans t.length
      have l2 : its2.length = es.length := r2.length.symm.trans t2.length
      have h := SeqAt.RcNeAt.tuples (A := A) (e := fun j => eqG (ds.getD j .non) (es.getD j .non)) p1 p2 hu0 fun j h1 h2 => by
        rw [List.size_toArray] at h1 h2
        obtain ⟨v, e1, e2, e3⟩ := Rdvs.at (P := fun _ _ _ => True) t r1 j h1
        obtain ⟨u, f1, f2, _⟩ := Rdvs.at (P := fun _ _ _ => True) t2 r2 j h2
        exact step _ _ v u _ _ e3 e1 f1 e2 f2
      rw [List.size_toArray, List.size_toArray, l1, l2, eqGs_range] at h
      exact h
  | lst q t =>
    rename_i a0 vs ds
    cases ra
    have hds : D.dataAll (n - 1) ds = true ∧ 0 < n := by cases n with | zero => simp [D.data] at hd | succ n => exact ⟨by simpa [D.data] using hd, Nat.succ_pos _⟩
    have hu1 : A.in1.units + (n - 1) < cLine := by show A.units + 1 + (n - 1) < cLine; omega
    have step : ∀ (d e : D) (v u : V) (a b : Value), d ∈ ds → Rdv X.K H v d → Rdv X.K H u e → RelV v a → RelV u b → SeqAt.EqAt A.in1 s a b (eqG d e) :=
      fun d e v u a b hm h g ra rb => (rc_eqG I (n - 1) d e A.in1 v u a b (data_mem hds.1 hm) hu1 h g ra rb).2
    obtain ⟨its, r1, p1, _⟩ := I.list q
    cases g with
    | non => cases rb; exact .list_none p1.isList hu0
    | bl y => cases rb; exact .list_bool y p1.isList hu0
    | int y => obtain ⟨t, rfl⟩ := rb; exact .list_int y t p1.isList hu0
    | str y => obtain ⟨t, rfl⟩ := rb; exact .list_str y t p1.isList hu0
    | tup q2 t2 => cases rb; obtain ⟨_, _, p2, _⟩ := I.tuple q2; exact .list_tuple p1.isList p2 hu0
    | lst q2 t2 => cases rb; exact rc_neLists I hu0 q q2 t t2 step
    | fl q2 t2 => cases rb; exact rc_neLists I hu0 q q2 t t2 step
  | fl q t =>
    rename_i a0 vs ds
    cases ra
    have hds : D.dataAll (n - 1) ds = true ∧ 0 < n := by cases n with | zero => simp [D.data] at hd | succ n => exact ⟨by simpa [D.data] using hd, Nat.succ_pos _⟩
    have hu1 : A.in1.units + (n - 1) < cLine := by show A.units + 1 + (n - 1) < cLine; omega
    have step : ∀ (d e : D) (v u : V) (a b : Value), d ∈ ds → Rdv X.K H v d → Rdv X.K H u e → RelV v a → RelV u b → SeqAt.EqAt A.in1 s a b (eqG d e) :=
      fun d e v u a b hm h g ra rb => (rc_eqG I (n - 1) d e A.in1 v u a b (data_mem hds.1 hm) hu1 h g ra rb).2
    obtain ⟨its, r1, p1, _⟩ := I.list q
    cases g with
    | non => cases rb; exact .list_none p1.isList hu0
    | bl y => cases rb; exact .list_bool y p1.isList hu0
    | int y => obtain ⟨t, rfl⟩ := rb; exact .list_int y t p1.isList hu0
    | str y => obtain ⟨t, rfl⟩ := rb; exact .list_str y t p1.isList hu0
    | tup q2 t2 => cases rb; obtain ⟨_, _, p2, _⟩ := I.tuple q2; exact .list_tuple p1.isList p2 hu0
    | lst q2 t2 => cases rb; exact rc_neLists I hu0 q q2 t t2 step
    | fl q2 t2 => cases rb; exact rc_neLists I hu0 q q2 t t2 step
end
/-- a list of the store, read -/
def resv (S : List MO) (x : D) : D := match x with
  | .ob n => match S[n]? with
    | some (.ml xs) => .lst xs
    | _ => .ob n
  | x => x
theorem resv_ok {K : Frag} {w : Wr} (d : Wd K w) {v : V} {x : D} {n : Nat} (h : Dt K w v x) (e : D.data n (resv w.S x) = true) : Rdv K w.H v (resv w.S x) := by
  cases x with
  | ob m =>
    cases h with
    | ob _ hn =>
      unfold resv at e ⊢
      dsimp only at e ⊢
      cases q : w.S[m]? with
      | none => rw [q] at e; simp [D.data] at e
      | some o =>
        rw [q] at e
        cases o with
        | ml ys =>
          dsimp only at e ⊢
          obtain ⟨vs, e2, t⟩ := d.ob m _ q
          cases n with
          | zero => simp [D.data] at e
          | succ n => exact .lst (SqL.of e2) (Dats.rdv d.fz ys t (by simpa [D.data] using e))
        | _ => simp [D.data] at e
  | _ => exact Dat.rdv d.fz _ h e
def eqB (S : List MO) (x y : D) : Option Bool := if D.data 60 (resv S x) = true ∧ D.data 60 (resv S y) = true then some (eqG (resv S x) (resv S y)) else none
def eqD (S : List MO) (x y : D) : Option D := (eqB S x y).map .bl
def neD (S : List MO) (x y : D) : Option D := (eqB S x y).map fun b => .bl (!b)
section
variable {X : Cx}
theorem o_eq {k : Nat} (hr : Room k X.A) : OpR X (compareOp .Eq) (opM X.K eqD) := by
  rintro pins s σ H x y v u Q inv rx ry ⟨w, dx, dy, d, rfl, wd, hx, hy, q, k⟩
  unfold eqD eqB at q
  split at q
  · rename_i hc
    cases q
    have hu := hr.units
    exact (rc_eqG inv 60 _ _ X.A x y v u hc.1 (by omega) (resv_ok wd hx hc.1) (resv_ok wd hy hc.2) rx ry).1 X.prog X.w X.xe _ ⟨.bl _, _, inv, rfl, k w (.bl _) rfl (Ex.refl _) wd (.bl _)⟩
  · cases q
theorem o_ne {k : Nat} (hr : Room k X.A) : OpR X (compareOp .NotEq) (opM X.K neD) := by
  rintro pins s σ H x y v u Q inv rx ry ⟨w, dx, dy, d, rfl, wd, hx, hy, q, k⟩
  unfold neD eqB at q
  split at q
  · rename_i hc
    cases q
    have hu := hr.units
    exact (rc_neG inv 60 _ _ X.A x y v u hc.1 (by omega) (resv_ok wd hx hc.1) (resv_ok wd hy hc.2) rx ry) X.prog X.w X.xe _ ⟨.bl _, _, inv, rfl, k w (.bl _) rfl (Ex.refl _) wd (.bl _)⟩
  · cases q
end
section
variable {X : Cx}
def isD (_ : List MO) (x y : D) : Option D := match y with
  | .non => some (.bl (isNone x))
  | _ => none
def isntD (_ : List MO) (x y : D) : Option D := match y with
  | .non => some (.bl (!isNone x))
  | _ => none
/-- in a flat list or tuple, a sign in a text -/
def flD : D → Bool
  | .non => true
  | .bl _ => true
  | .int _ => true
  | .str _ => true
  | _ => false
def eqF : D → D → Bool
  | .non, .non => true
  | .bl a, .bl b => a == b
  | .bl a, .int b => (if a then 1 else 0) == b
  | .int a, .bl b => a == (if b then 1 else 0)
  | .int a, .int b => a == b
  | .str a, .str b => a == b
  | _, _ => false
def inB (S : List MO) (x y : D) : Option Bool := match x, y with
  | .str z, .str t => match z.cps.toList with
    | [c] => some (decide (c ∈ t.cps.toList))
    | _ => none
  | x, y => match seqOf S y with
    | some ys => if (flD x && ys.all flD) = true then some (ys.any fun z => eqF z x) else none
    | none => none
def inD (S : List MO) (x y : D) : Option D := (inB S x y).map .bl
def ninD (S : List MO) (x y : D) : Option D := (inB S x y).map fun b => .bl (!b)
theorem Dat.flat {K : Frag} {ι : Nat → Addr} {N : Nat} {B : Hp} {v : V} {d : D} (h : Dat K ι N B v d) (f : flD d = true) : flatV v = true := by
  cases h <;> first | rfl | (simp [flD] at f; done)
theorem Dats.flat {K : Frag} {ι : Nat → Addr} {N : Nat} {B : Hp} : ∀ {vs : List V} {ds : List D}, Dats K ι N B vs ds → ds.all flD = true → vs.all flatV = true
  | _, _, .nil, _ => rfl
  | _, _, .cons h t, f => by
    rw [List.all_cons, Bool.and_eq_true] at f ⊢
    exact ⟨h.flat f.1, t.flat f.2⟩
end
theorem Dt.exw {K : Frag} {w w' : Wr} {v : V} {d : D} (x : Exw w w') (h : Dt K w v d) : Dt K w' v d := Dat.mono x.le x.io x.fz h
theorem Exw.poke {w w' : Wr} {a : Addr} {u : HO} (x : Exw w w') : Exw w { w' with H := upd w'.H a u } := ⟨x.le, x.io, x.fz⟩
/-- from w on the walk J gives the items ds, one after another -/
def Wk (K : Frag) (w : Wr) (J : It) (ds : List D) : Prop := ∃ G Y, Walk J ds.length G Y ∧ (∀ w1, Exw w w1 → Wd K w1 → G w1.H) ∧
  ∀ i w1 x H', i < ds.length → Exw w w1 → Wd K w1 → Y i w1.H x H' → ∃ w2 d, w2.H = H' ∧ w2.S = w1.S ∧ Ex w1 w2 ∧ Wd K w2 ∧ ds[i]? = some d ∧ Dt K w2 x d
def iM (K : Frag) (W : WX) (it : Rho → M (List D)) : TI := fun σ H R => ∃ w ρ, At K w σ ρ H ∧ Pst K (WE W σ) w (it ρ w.S) (fun ds w' => ∀ J, Wk K w' J ds → R J w'.H)
def PDI (X : Cx) (W : WX) (tg iter : Expr) (it : Rho → M (List D)) : Prop := PI X tg iter (iM X.K W it)
theorem PI.imp {X : Cx} {tg e : Expr} {t t' : TI} (h : PI X tg e t) (i : ∀ σ H Q, t' σ H Q → t σ H Q) : PI X tg e t' := ⟨fun pins s σ H R I q => h.run pins s σ H R I (i _ _ _ q)⟩
def strD (z : Str) : List D := z.cps.toList.map fun c => .str ⟨#[c]⟩
/-- the items of a value that stands still -/
def itemsOf : D → M (List D)
  | .tup xs => pure xs
  | .lst xs => pure xs
  | .fl xs => pure xs
  | .str z => pure (strD z)
  | _ => bad
section
variable {X : Cx} {W : WX} {tg e : Expr} {m : Rho → M D} {ms : Rho → M (List D)} {p pos tpos : Pos}
def valI (m : Rho → M D) : Rho → M (List D) := fun ρ => m ρ >>= itemsOf
def upD (lo : Int) (n : Nat) : List D := (List.range n).map fun i => .int (lo + (i : Nat))
theorem wk_range {K : Frag} {w : Wr} {lo : Int} {n : Nat} : Wk K w (Itr lo n) (upD lo n) := by
  have hl : (upD lo n).length = n := by unfold upD; rw [List.length_map, List.length_range]
  refine ⟨_, _, by rw [hl]; exact walk_range, fun _ _ _ => trivial, fun i w1 x H' hi e1 d1 y => ?_⟩
  obtain ⟨e, hx⟩ := y
  refine ⟨w1, .int (lo + (i : Nat)), e.symm, rfl, Ex.refl _, d1, ?_, ?_⟩
  · rw [hl] at hi
    unfold upD
    rw [List.getElem?_map, List.getElem?_range hi]
    rfl
  · rw [hx]; exact .int _
def rng1 : List D → M (List D)
  | [.int j] => if -(2 ^ 62) ≤ j ∧ j < 2 ^ 62 then pure (upD 0 j.toNat) else bad
  | _ => bad
def rng2 : List D → M (List D)
  | [.int i, .int j] => if -(2 ^ 62) ≤ i ∧ i < 2 ^ 62 ∧ -(2 ^ 62) ≤ j ∧ j < 2 ^ 62 then pure (upD i (j - i).toNat) else bad
  | _ => bad
theorem Dats.two {K : Frag} {w : Wr} {vs : List V} {d e : D} (h : Dts K w vs [d, e]) : ∃ v u, vs = [v, u] ∧ Dt K w v d ∧ Dt K w u e := by
  cases h with
  | cons h t =>
    obtain ⟨u, rfl, g⟩ := Dats.one t
    exact ⟨_, _, rfl, h, g⟩
theorem pdi_range1 {a : Expr} (hg : Gl X "range") (hm : X.mg "range" = none) (ha : PDA X W [a] ms) (hs : starEach [a] X.env = [(false, eval a X.env)] := by rfl) : PDI X W tg (.Call (.Name "range" p) [a] [] pos) (fun ρ => ms ρ >>= rng1) :=
  PI.imp (pi_range1 hg hm ha hs) fun σ H R ⟨w, ρ, a, h⟩ => tA_bind (f := fun _ ds => rng1 ds) a h fun ds vs w1 e1 a1 hv h1 => by
    unfold rng1 at h1
    split at h1
    · split at h1
      · rename_i hb
        obtain ⟨v, rfl, hv'⟩ := Dats.one hv
        rw [hv'.int_of]
        exact ⟨_, rfl, hb.1, hb.2, h1 w1 rfl (Ex.refl _) a1.2.1 _ wk_range⟩
      · exact h1.elim
    · exact h1.elim
theorem pdi_range2 {a b : Expr} (hg : Gl X "range") (hm : X.mg "range" = none) (ha : PDA X W [a, b] ms) (hs : starEach [a, b] X.env = [(false, eval a X.env), (false, eval b X.env)] := by rfl) (hs2 : starEach [b] X.env = [(false, eval b X.env)] := by rfl) :
    PDI X W tg (.Call (.Name "range" p) [a, b] [] pos) (fun ρ => ms ρ >>= rng2) :=
  PI.imp (pi_range2 hg hm ha hs hs2) fun σ H R ⟨w, ρ, a, h⟩ => tA_bind (f := fun _ ds => rng2 ds) a h fun ds vs w1 e1 a1 hv h1 => by
    unfold rng2 at h1
    split at h1
    · split at h1
      · rename_i hb
        obtain ⟨v, u, rfl, hv', hu⟩ := Dats.two hv
        rw [hv'.int_of, hu.int_of]
        exact ⟨_, _, rfl, hb, h1 w1 rfl (Ex.refl _) a1.2.1 _ wk_range⟩
      · exact h1.elim
    · exact h1.elim
end
def forM (g : D → Rho → M Rho) (body : Rho → M Fl) : List D → Rho → M Fl
  | [], ρ => pure (.nx ρ)
  | d :: ds, ρ => g d ρ >>= fun ρ' => body ρ' >>= fun fl => match fl with
    | .nx ρ2 => forM g body ds ρ2
    | .ct ρ2 => forM g body ds ρ2
    | .bk ρ2 => pure (.nx ρ2)
    | .rt d => pure (.rt d)
def forS (it : Rho → M (List D)) (g : D → Rho → M Rho) (body : Rho → M Fl) : Rho → M Fl := fun ρ => it ρ >>= fun ds => forM g body ds ρ
section
variable {X : Cx} {W : WX} {tg iter : Expr} {it : Rho → M (List D)} {g : D → Rho → M Rho} {body : List Stmt} {mb : Rho → M Fl} {pos : Pos}
theorem pds_for (bl : Blind W) (hp : PassesOwn (model X.prog X.w) X.A X.env X.xe) (hc : X.calm = true) (hi : PDI X W tg iter it) (hg : PDG X W tg g) (hb : PDSs X W body mb)
    (hs : ∀ x, foldedSetIterable iter X.env x = pure x := by intro _; rfl) : PDS X W (.For tg iter body [] pos) (forS it g mb) := PS.imp (ps_for hp hc hi hg hb hs) fun Dn σ H ⟨w, ρ, a, h⟩ => by
  refine ⟨w, ρ, a, (Pst.bind (m := it ρ) (f := fun ds => forM g mb ds ρ) h).mono fun ds w0 e0 d0 h0 J wk => ?_⟩
  obtain ⟨G, Y, wk, hG, hY⟩ := wk
  refine for_it wk (fun i σ H => ∃ w1 ρ1, At X.K w1 σ ρ1 H ∧ Ex w0 w1 ∧ Pst X.K (WE W σ) w0 (forM g mb (ds.drop i) ρ1 w1.S) (kS X.K Dn))
    ⟨w0, ρ, ⟨rfl, d0, a.2.2.ex e0⟩, Ex.refl _, h0⟩ (fun i σ H hi ⟨w1, ρ1, a1, e1, _⟩ => by rw [← a1.1]; exact hG w1 e1.w a1.2.1) ?_ ?_
  · rintro i x σ1 H1 H' hi ⟨w1, ρ1, ⟨rfl, d1, l1⟩, e1, h1⟩ y
    obtain ⟨w2, d, rfl, hS, e2, d2, hd, hx⟩ := hY i w1 x H' hi e1.w d1 y
    have hd' : ds.drop i = d :: ds.drop (i + 1) := by
      rw [List.drop_eq_getElem_cons hi]
      congr 1
      rw [List.getElem?_eq_getElem hi] at hd
      exact Option.some.inj hd
    rw [hd', ← hS] at h1
    have x2 := e1.trans d1 e2
    refine ⟨w2, ρ1, d, ⟨rfl, d2, l1.ex e2⟩, hx, (Pst.split (m := g d ρ1) h1 x2 d2).mono fun ρ3 w3 e3 d3 ⟨x3, h3⟩ σ3 l3 => ?_⟩
    have h3 := Pst.blind (σ' := σ3) bl h3
    refine ⟨w3, ρ3, ⟨rfl, d3, l3⟩, (Pst.split (m := mb ρ3) h3 x3 d3).mono fun fl w4 e4 d4 ⟨x4, h4⟩ => ?_⟩
    cases fl with
    | nx ρ5 => exact fun σ5 l5 => ⟨w4, ρ5, ⟨rfl, d4, l5⟩, x4, Pst.blind bl h4⟩
    | ct ρ5 => exact fun σ5 l5 => ⟨w4, ρ5, ⟨rfl, d4, l5⟩, x4, Pst.blind bl h4⟩
    | bk ρ5 => exact h4 w4 rfl x4 d4
    | rt d5 => exact h4 w4 rfl x4 d4
  · rintro σ1 H1 ⟨w1, ρ1, ⟨rfl, d1, l1⟩, e1, h1⟩
    rw [List.drop_length] at h1
    exact h1 w1 rfl e1 d1 σ1 l1
end
def noX {α : Type} (m : M α) : M α := fun S => match m S with
  | .ok a S1 => .ok a S1
  | _ => .bad
def compM (f : D → M (Option D)) : List D → M (List D)
  | [] => pure []
  | d :: ds => noX (f d) >>= fun o => compM f ds >>= fun rs => pure (o.toList ++ rs)
def wipeR (ρ : Rho) : List Nat → Rho
  | [] => ρ
  | v :: vs => (wipeR ρ vs).set v none
/-- a list is laid that nobody holds yet, or grows -/
theorem Wd.poke {K : Frag} {w : Wr} {a : Addr} {o : HO} (d : Wd K w) (hB : w.B a = none) (hi : ∀ n, n < w.S.length → w.ι n ≠ a) : Wd K { w with H := upd w.H a o } := by
  refine ⟨fun b u h => ?_, d.sp, fun n u h => ?_, d.inj⟩
  · show upd w.H a o b = some u
    rw [upd_ne (fun z => by have h : w.B b = some u := h; rw [z, hB] at h; cases h)]
    exact d.fz b u h
  · have hn : n < w.S.length := (List.getElem?_eq_some_iff.mp h).1
    have q := d.ob n u h
    have eH : upd w.H a o (w.ι n) = w.H (w.ι n) := upd_ne (hi n hn)
    cases u with
    | ml ds => obtain ⟨vs, e, t⟩ := q; exact ⟨vs, eH.trans e, t⟩
    | mk ks ds => obtain ⟨vs, e, l, t⟩ := q; exact ⟨vs, eH.trans e, l, t⟩
    | mt ks ds => obtain ⟨vs, e, l, t⟩ := q; exact ⟨vs, eH.trans e, l, t⟩
    | mi C ns ds => obtain ⟨dx, vs, e, l, t⟩ := q; exact ⟨dx, vs, eH.trans e, l, t⟩
    | tb _ _ => exact MOk.tbm q eH fun _ _ z => z
theorem Ex.poke {w0 w : Wr} {a : Addr} {o : HO} (x : Ex w0 w) (h0 : w0.H a = none) : Ex w0 { w with H := upd w.H a o } :=
  ⟨x.le, x.io, x.fz, x.nw, x.ni, fun b u h hn => by
    show upd w.H a o b = some u
    rw [upd_ne (fun z => by rw [z, h0] at h; cases h)]
    exact x.kp b u h hn⟩
/-- D is laid behind w0, by itself -/
structure Alone (w0 w : Wr) (a : Addr) : Prop where
  h0 : w0.H a = none
  b : w.B a = none
  i : ∀ n, n < w.S.length → w.ι n ≠ a
theorem Alone.first {K : Frag} {w : Wr} {a : Addr} (d : Wd K w) (h : w.H a = none) : Alone w w a := by
  refine ⟨h, ?_, fun n hn z => ?_⟩
  · cases e : w.B a with
    | none => rfl
    | some u => rw [d.fz _ _ e] at h; cases h
  · obtain ⟨u, e⟩ := d.there hn
    rw [z, h] at e; cases e
theorem Alone.next {w0 w w' : Wr} {a : Addr} {o : HO} (l : Alone w0 w a) (x : Ex w w') (h : w.H a = some o) : Alone w0 w' a := by
  refine ⟨l.h0, ?_, fun n hn z => ?_⟩
  · cases e : w'.B a with
    | none => rfl
    | some u =>
      rcases x.nw a u e with q | q
      · rw [l.b] at q; cases q
      · rw [h] at q; cases q
  · by_cases hc : n < w.S.length
    · rw [x.io n hc] at z; exact l.i n hc z
    · have := x.ni n (Nat.not_lt.mp hc) hn
      rw [z, h] at this; cases this
theorem Lo.wipe {K : Frag} {w : Wr} {σ : L2.St} {ρ : Rho} (l : Lo K w σ ρ) : ∀ vs : List Nat, Lo K w (L2.wipe σ vs) (wipeR ρ vs)
  | [] => l
  | v :: vs => by
    have ih := Lo.wipe l vs
    refine ⟨by rw [wipe_length]; show _ = ((wipeR ρ vs).set v none).length; rw [List.length_set, ← ih.len, wipe_length], fun i d h => ?_⟩
    have h : ((wipeR ρ vs).set v none)[i]? = some (some d) := h
    by_cases hi : v = i
    · subst hi
      by_cases hl : v < (wipeR ρ vs).length
      · rw [List.getElem?_set_self hl] at h; cases h
      · rw [List.getElem?_eq_none (by simpa using Nat.not_lt.mp hl)] at h; cases h
    · rw [List.getElem?_set_ne hi] at h
      obtain ⟨u, e, r⟩ := ih.sl i d h
      refine ⟨u, ?_, r⟩
      show ((L2.wipe σ vs).set v none)[i]? = _
      rw [List.getElem?_set_ne hi]
      exact e
section
variable {X : Cx} {W W' : WX} {tg iter elt : Expr} {ifs : List Expr} {scope : Scope} {own : List (Str × Nat)} {it : Rho → M (List D)} {g : D → Rho → M Rho} {t : Rho → M Bool} {m : Rho → M D} {pos : Pos}
abbrev WN : WX := fun _ _ _ _ => False
def PDTs (X : Cx) (W : WX) (ifs : List Expr) (t : Rho → M Bool) : Prop := PTs X ifs (tT X.K W t)
theorem PTs.imp {X : Cx} {e : List Expr} {t t' : TT} (h : PTs X e t) (i : ∀ σ H Q, t' σ H Q → t σ H Q) : PTs X e t' := ⟨fun pins s σ H Q I q => h.run pins s σ H Q I (i _ _ _ q)⟩
theorem pdts_nil : PDTs X W [] (fun _ => pure true) := PTs.imp pts_nil fun σ H Q ⟨w, ρ, a, h⟩ => by
  have : Q true w.H := h w rfl (Ex.refl w) a.2.1
  rw [a.1] at this
  exact this
end
theorem wipe_get {σ : L2.St} : ∀ (vs : List Nat) (j : Nat), (L2.wipe σ vs)[j]? = if j ∈ vs then (σ[j]?).map (fun _ => none) else σ[j]?
  | [], j => by rw [if_neg (by simp)]; rfl
  | v :: vs, j => by
    show ((L2.wipe σ vs).set v none)[j]? = _
    by_cases hj : v = j
    · subst hj
      rw [if_pos List.mem_cons_self]
      by_cases hl : v < (L2.wipe σ vs).length
      · rw [List.getElem?_set_self hl]
        rw [wipe_length] at hl
        rw [List.getElem?_eq_getElem hl]
        rfl
      · rw [List.getElem?_eq_none (by simpa using Nat.not_lt.mp hl)]
        rw [wipe_length] at hl
        rw [List.getElem?_eq_none (Nat.not_lt.mp hl)]
        rfl
    · rw [List.getElem?_set_ne hj, wipe_get vs j]
      by_cases hm : j ∈ vs
      · rw [if_pos hm, if_pos (List.mem_cons_of_mem _ hm)]
      · rw [if_neg hm, if_neg (fun z => (List.mem_cons.mp z).elim (fun q => hj q.symm) hm)]
theorem wipe_set {σ : L2.St} {vs : List Nat} {i : Nat} {x : Option V} (hi : i ∈ vs) : L2.wipe (σ.set i x) vs = L2.wipe σ vs := by
  refine List.ext_getElem? fun j => ?_
  rw [wipe_get, wipe_get]
  by_cases hj : j ∈ vs
  · rw [if_pos hj, if_pos hj]
    by_cases z : i = j
    · subst z
      by_cases hl : i < σ.length
      · rw [List.getElem?_set_self hl, List.getElem?_eq_getElem hl]; rfl
      · rw [List.getElem?_eq_none (by simpa using Nat.not_lt.mp hl), List.getElem?_eq_none (Nat.not_lt.mp hl)]
    · rw [List.getElem?_set_ne z]
  · rw [if_neg hj, if_neg hj, List.getElem?_set_ne (fun z => hj (by rw [← z]; exact hi))]
theorem wipe_wipe {σ : L2.St} {vs : List Nat} : L2.wipe (L2.wipe σ vs) vs = L2.wipe σ vs := by
  refine List.ext_getElem? fun j => ?_
  rw [wipe_get]
  by_cases hj : j ∈ vs
  · rw [if_pos hj, wipe_get, if_pos hj]
    cases σ[j]? <;> rfl
  · rw [if_neg hj]
structure OwnT (K : Frag) (vs : List Nat) (G : TG) (b : D → Rho → Option Rho) : Prop where
  at_ : ∀ (v : V) (σ : L2.St) (H : Hp) (Q : L2.St → Hp → Prop) (w : Wr) (ρ : Rho) (d : D) (ρ' : Rho), At K w σ ρ H → Dt K w v d → b d ρ = some ρ' → (∀ σ', Lo K w σ' ρ' → L2.wipe σ' vs = L2.wipe σ vs → Q σ' H) → G v σ H Q
structure OwnTs (K : Frag) (vs : List Nat) (G : TGs) (b : List D → Rho → Option Rho) : Prop where
  at_ : ∀ (v : List V) (σ : L2.St) (H : Hp) (Q : L2.St → Hp → Prop) (w : Wr) (ρ : Rho) (d : List D) (ρ' : Rho), At K w σ ρ H → Dts K w v d → b d ρ = some ρ' → (∀ σ', Lo K w σ' ρ' → L2.wipe σ' vs = L2.wipe σ vs → Q σ' H) → G v σ H Q
def bName (i : Nat) : D → Rho → Option Rho := fun d ρ => some (ρ.set i (some d))
def bNil : List D → Rho → Option Rho := fun ds ρ => match ds with
  | [] => some ρ
  | _ => none
def bCons (b : D → Rho → Option Rho) (bs : List D → Rho → Option Rho) : List D → Rho → Option Rho := fun ds ρ => match ds with
  | d :: ds => (b d ρ).bind fun ρ' => bs ds ρ'
  | [] => none
section
variable {K : Frag} {vs : List Nat} {G : TG} {Gs : TGs} {b : D → Rho → Option Rho} {bs : List D → Rho → Option Rho}
theorem ot_name {i : Nat} (hi : i ∈ vs := by decide) : OwnT K vs (gName i) (bName i) := ⟨fun v σ H Q w ρ d ρ' a hv e k => by
  cases e
  exact k _ (a.2.2.set hv) (wipe_set hi)⟩
end
section
variable {X : Cx} {W W' : WX} {tg iter elt : Expr} {ifs : List Expr} {scope : Scope} {own : List (Str × Nat)} {it : Rho → M (List D)} {G : TG} {b : D → Rho → Option Rho} {t : Rho → M Bool} {m : Rho → M D} {pos : Pos}
def oneM (b : D → Rho → Option Rho) (t : Rho → M Bool) (m : Rho → M D) (ρ : Rho) (d : D) : M (Option D) := lift (b d ρ) >>= fun ρ' => t ρ' >>= fun k => if k = true then m ρ' >>= fun r => pure (some r) else pure none
def lcMM (vs : List Nat) (it : Rho → M (List D)) (b : D → Rho → Option Rho) (t : Rho → M Bool) (m : Rho → M D) : Rho → M D := fun ρ => it ρ >>= fun ds => compM (oneM b t m (wipeR ρ vs)) ds >>= mkL
theorem compM_cons (f : D → M (Option D)) (d : D) (ds acc : List D) : (compM f (d :: ds) >>= fun rs => mkL (acc ++ rs)) = (noX (f d) >>= fun o => compM f ds >>= fun rs => mkL ((acc ++ o.toList) ++ rs)) := by
  simp only [compM, bind_assoc', pure_bind', List.append_assoc]
theorem noX_ok {α : Type} {m : M α} {S S1 : List MO} {a : α} (h : m S = .ok a S1) : noX m S = .ok a S1 := by unfold noX; rw [h]
theorem noX_exc {α : Type} {m : M α} {S S1 : List MO} {C : Value} {fs : Option (List Str × List D)} (h : m S = .exc C fs S1) : noX m S = .bad := by unfold noX; rw [h]
theorem noX_no {α : Type} {m : M α} {S : List MO} (h : m S = .bad) : noX m S = .bad := by unfold noX; rw [h]
theorem compM_noexc (f : D → M (Option D)) : ∀ (ds : List D) (S : List MO) {C fs S'}, compM f ds S ≠ .exc C fs S'
  | [], S, C, fs, S' => fun h => nomatch h
  | d :: ds, S, C, fs, S' => fun h => by
    have h : (noX (f d) S).andThen (fun o => compM f ds >>= fun rs => pure (o.toList ++ rs)) = .exc C fs S' := h
    cases e : f d S with
    | ok o S1 =>
      rw [noX_ok e] at h
      have h : (compM f ds S1).andThen (fun rs => pure (o.toList ++ rs)) = .exc C fs S' := h
      cases e2 : compM f ds S1 with
      | ok rs S2 => rw [e2] at h; cases h
      | exc C2 fs2 S2 => exact compM_noexc f ds S1 e2
      | bad => rw [e2] at h; cases h
    | exc C2 fs2 S2 => rw [noX_exc e] at h; cases h
    | bad => rw [noX_no e] at h; cases h
theorem comp_small {K : Frag} {W : XK} {w : Wr} {f : D → M (Option D)} {ds acc : List D} {S : List MO} {k : D → Wr → Prop} (h : Pst K W w ((compM f ds >>= fun rs => mkL (acc ++ rs)) S) k) : acc.length ≤ sizeLine := by
  rw [bind_app] at h
  cases e : compM f ds S with
  | ok rs S1 =>
    rw [e] at h
    have h : Pst K W w (mkL (acc ++ rs) S1) k := h
    unfold mkL at h
    by_cases hl : (acc ++ rs).length ≤ sizeLine
    · rw [List.length_append] at hl; omega
    · rw [if_neg hl] at h; exact h.elim
  | exc C fs S1 => exact absurd e (compM_noexc f ds S)
  | bad => rw [e] at h; exact h.elim
theorem Pst.splitN {K : Frag} {W W' : XK} {w0 w : Wr} {α β : Type} {m : M α} {f : α → M β} {k : β → Wr → Prop} (h : Pst K W w0 ((noX m >>= f) w.S) k) (x : Ex w0 w) (d : Wd K w) :
    Pst K W' w (m w.S) fun a w' => Ex w0 w' ∧ Pst K W w0 (f a w'.S) k := by
  rw [bind_app] at h
  cases e : m w.S with
  | ok a S =>
    simp only [noX, e] at h
    intro w' e' x' d'
    rw [e']
    exact ⟨x.trans d x', h⟩
  | exc C fs S => simp only [noX, e] at h; exact h.elim
  | bad => simp only [noX, e] at h; exact h.elim
/-- the reading of a comprehension, whatever is walked -/
theorem tLc_of {K : Frag} {σ : L2.St} {H : Hp} {Q : VK} (ot : OwnT K (own.map (·.2)) G b) (h : tE K W (lcMM (own.map (·.2)) it b t m) σ H Q) : tLc (iM K W it) G (tT K WN t) (tE K WN m) (own.map (·.2)) σ H Q := by
  obtain ⟨w, ρ, a, h⟩ := h
  refine ⟨w, ρ, a, (Pst.bind (m := it ρ) (f := fun ds => compM (oneM b t m (wipeR ρ (own.map (·.2)))) ds >>= mkL) h).mono fun ds w0 e0 d0 h0 J wk D hD => ?_⟩
  obtain ⟨G', Y, wk, hG, hY⟩ := wk
  have l0 : Lo K w0 (L2.wipe σ (own.map (·.2))) (wipeR ρ (own.map (·.2))) := (a.2.2.ex e0).wipe _
  have al0 := Alone.first d0 hD
  refine lc_it wk (fun i H => ∃ w1 acc vs, w1.H = H ∧ Wd K w1 ∧ Ex w0 w1 ∧ Alone w0 w1 D ∧ H D = some (.lst vs) ∧ Dts K w1 vs acc ∧ acc.length ≤ sizeLine ∧ Pst K (WE W σ) w0 ((compM (oneM b t m (wipeR ρ (own.map (·.2)))) (ds.drop i) >>= fun rs => mkL (acc ++ rs)) w1.S) (kE K Q))
    ⟨{ w0 with H := upd w0.H D (.lst []) }, [], [], rfl, d0.poke al0.b al0.i, (Ex.refl _).poke hD, ⟨hD, al0.b, al0.i⟩, upd_same, .nil, Nat.zero_le _, h0⟩ ?_ ?_ ?_
  · rintro i H hi ⟨w1, acc, vs, rfl, d1, x1, _⟩
    exact hG w1 x1.w d1
  · rintro i x H1 H' hi ⟨w1, acc, vs, rfl, d1, x1, al1, hD1, t1, hl1, h1⟩ y
    obtain ⟨w2, d, rfl, hS, x12, d2, hd, hx⟩ := hY i w1 x H' hi x1.w d1 y
    have hd' : ds.drop i = d :: ds.drop (i + 1) := by
      rw [List.drop_eq_getElem_cons hi]
      congr 1
      rw [List.getElem?_eq_getElem hi] at hd
      exact Option.some.inj hd
    have x2 := x1.trans d1 x12
    have al2 := al1.next x12 hD1
    have hD2 : w2.H D = some (.lst vs) := x12.kp _ _ hD1 fun n hn z => al1.i n hn z.symm
    have t2 := Dts.ex x12 t1
    rw [hd', ← hS, compM_cons] at h1
    have h2 := Pst.splitN (W' := WE WN (L2.wipe σ (own.map (·.2)))) (m := oneM b t m (wipeR ρ (own.map (·.2))) d) h1 x2 d2
    obtain ⟨ρ', hb, h3⟩ := Pst.lift (f := fun ρ' => t ρ' >>= fun k => if k = true then m ρ' >>= fun r => pure (some r) else pure none) h2
    refine ot.at_ x _ _ _ w2 _ d ρ' ⟨rfl, d2, l0.ex x2⟩ hx hb fun σ2 l2 z2 => ⟨?_, ?_⟩
    · rw [z2, wipe_wipe]
    have a2 : At K w2 σ2 ρ' w2.H := ⟨rfl, d2, l2⟩
    have h3 : Pst K (WE WN σ2) w2 ((t ρ' >>= fun k => if k = true then m ρ' >>= fun r => pure (some r) else pure none) w2.S) _ := h3
    refine tT_bind (f := fun ρ' k => if k = true then m ρ' >>= fun r => pure (some r) else pure none) a2 h3 fun k w3 x23 a3 h4 => ?_
    have hD3 : w3.H D = some (.lst vs) := x23.kp _ _ hD2 fun n hn z => al2.i n hn z.symm
    have al3 := al2.next x23 hD2
    have t3 := Dts.ex x23 t2
    cases k with
    | false =>
      rw [if_neg Bool.false_ne_true] at h4 ⊢
      obtain ⟨x3, h5⟩ := h4 w3 rfl (Ex.refl _) a3.2.1
      refine ⟨w3, acc, vs, rfl, a3.2.1, x3, al3, hD3, t3, hl1, ?_⟩
      simpa using h5
    | true =>
      rw [if_pos rfl] at h4 ⊢
      refine tE_bind (f := fun _ r => pure (some r)) a3 h4 fun r y w4 x34 a4 hr h5 => ?_
      obtain ⟨x4, h6⟩ := h5 w4 rfl (Ex.refl _) a4.2.1
      have hD4 : w4.H D = some (.lst vs) := x34.kp _ _ hD3 fun n hn z => al3.i n hn z.symm
      have al4 := al3.next x34 hD3
      have t4 := Dts.ex x34 t3
      have hsm := comp_small h6
      rw [List.length_append] at hsm
      have hl4 : (acc ++ [r]).length ≤ sizeLine := by rw [List.length_append]; exact hsm
      refine ⟨vs, hD4, ?_, ?_⟩
      · rw [t4.length]
        have : ([r] : List PD.D).length = 1 := rfl
        have e1 : (Option.toList (some r)).length = 1 := rfl
        omega
      · exact ⟨{ w4 with H := upd w4.H D (.lst (vs ++ [y])) }, acc ++ [r], vs ++ [y], rfl, a4.2.1.poke al4.b al4.i, x4.poke hD, ⟨hD, al4.b, al4.i⟩, upd_same, t4.append (.cons hr .nil), hl4, h6⟩
  · rintro H1 ⟨w1, acc, vs, rfl, d1, x1, al1, hD1, t1, hl1, h1⟩
    rw [List.drop_length] at h1
    have h1 : Pst K (WE W σ) w0 (mkL (acc ++ []) w1.S) (kE K Q) := h1
    rw [List.append_nil] at h1
    -- D is settled now
    have nS : ∀ n, n < w1.S.length → w1.ι n ≠ D := al1.i
    unfold mkL at h1
    rw [if_pos hl1] at h1
    have up : ∀ a o, w1.B a = some o → upd w1.B D (.lst vs) a = some o := fun a o q => by
      rw [upd_ne (fun z => by rw [z, al1.b] at q; cases q)]; exact q
    refine h1 { w1 with B := upd w1.B D (.lst vs) } rfl ⟨x1.le, x1.io, fun a o q => up a o (x1.fz a o q), fun a o q => ?_, x1.ni, x1.kp⟩ ⟨fun a o q => ?_, fun n hn' => ?_, fun n o q => ?_, d1.inj⟩ _ ?_
    · have q : upd w1.B D (.lst vs) a = some o := q
      by_cases z : a = D
      · subst z; exact .inr hD
      · rw [upd_ne z] at q; exact x1.nw a o q
    · have q : upd w1.B D (.lst vs) a = some o := q
      by_cases z : a = D
      · subst z; rw [upd_same] at q; cases q; exact hD1
      · rw [upd_ne z] at q; exact d1.fz a o q
    · show upd w1.B D (.lst vs) (w1.ι n) = none
      rw [upd_ne (nS n hn')]
      exact d1.sp n hn'
    · have mv : ∀ {us : List V} {es : List PD.D}, Dts K w1 us es → Dts K { w1 with B := upd w1.B D (.lst vs) } us es := fun t => Dats.mono (Nat.le_refl _) (fun _ _ => rfl) up t
      have q2 := d1.ob n o q
      cases o with
      | ml _ => obtain ⟨us, e, t⟩ := q2; exact ⟨us, e, mv t⟩
      | mk _ _ => obtain ⟨us, e, l, t⟩ := q2; exact ⟨us, e, l, mv t⟩
      | mt _ _ => obtain ⟨us, e, l, t⟩ := q2; exact ⟨us, e, l, mv t⟩
      | mi _ _ _ => obtain ⟨dx, us, e, l, t⟩ := q2; exact ⟨dx, us, e, l, mv t⟩
      | tb _ _ => exact MOk.tbm q2 rfl up
    · exact .lst (by show upd w1.B D (.lst vs) D = _; exact upd_same) hl1 (Dats.mono (Nat.le_refl _) (fun _ _ => rfl) up t1)
theorem pd_lc (own : List (Str × Nat)) (hc : X.calm = true) (hN : X.N.Nodup) (hi : PDI X W tg iter it) (ok : BlkOk X.N X.env.scope scope own)
    (hg : ∀ (s : Shared) (H : Hp) (C : Addr) (cl : List (Str × Addr)) (fp : List Addr), PG (X.blk s H scope (compEnvC scope cl C X.env) fp) tg G) (ot : OwnT X.K (own.map (·.2)) G b)
    (ht : ∀ (s : Shared) (H : Hp) (C : Addr) (cl : List (Str × Addr)) (fp : List Addr), PDTs (X.blk s H scope (compEnvC scope cl C X.env) fp) WN ifs t)
    (he : ∀ (s : Shared) (H : Hp) (C : Addr) (cl : List (Str × Addr)) (fp : List Addr), PDE (X.blk s H scope (compEnvC scope cl C X.env) fp) WN elt m) (hs : ∀ x, foldedSetIterable iter X.env x = pure x := by intro _; rfl) :
    PDE X W (.ListComp elt [⟨tg, iter, ifs, 0⟩] scope pos) (lcMM (own.map (·.2)) it b t m) :=
  PE.imp (pe_lc (tt := tT X.K WN t) (te := tE X.K WN m) hc hN hi ok hg ht he hs) fun σ H Q h => tLc_of ot h
/-- name = [..] on one line -/
theorem pds_setLc (i : Nat) {y : Str} {py spos : Pos} (own : List (Str × Nat)) (hc : X.calm = true) (hN : X.N.Nodup) (hsw : swapsWith (.ListComp elt [⟨tg, iter, ifs, 0⟩] scope pos) (some (.Name y py)) spos.line X.env = pure true) (hi : PDI X W tg iter it) (ok : BlkOk X.N X.env.scope scope own)
    (hg : ∀ (s : Shared) (H : Hp) (C : Addr) (cl : List (Str × Addr)) (fp : List Addr), PG (X.blk s H scope (compEnvC scope cl C X.env) fp) tg G) (ot : OwnT X.K (own.map (·.2)) G b)
    (ht : ∀ (s : Shared) (H : Hp) (C : Addr) (cl : List (Str × Addr)) (fp : List Addr), PDTs (X.blk s H scope (compEnvC scope cl C X.env) fp) WN ifs t)
    (he : ∀ (s : Shared) (H : Hp) (C : Addr) (cl : List (Str × Addr)) (fp : List Addr), PDE (X.blk s H scope (compEnvC scope cl C X.env) fp) WN elt m)
    (hy : X.N[i]? = some y := by rfl) (hyl : X.env.scope.names.lookup y = some .local := by rfl) (hs : ∀ x, foldedSetIterable iter X.env x = pure x := by intro _; rfl) :
    PDS X W (.Assign [.Name y py] (.ListComp elt [⟨tg, iter, ifs, 0⟩] scope pos) spos) (setS i (lcMM (own.map (·.2)) it b t m)) :=
  PS.imp (ps_setLc (tt := tT X.K WN t) (te := tE X.K WN m) hc hN hy hyl hsw hi ok hg ht he hs) fun Dn σ H ⟨w, ρ, a, h⟩ => by
    refine tLc_of ot ⟨w, ρ, a, (Pst.bind (m := lcMM (own.map (·.2)) it b t m ρ) (f := fun d => pure (Fl.nx (ρ.set i (some d)))) h).mono fun d w1 e1 d1 h1 v hv => ?_⟩
    exact h1 w1 rfl (Ex.refl _) d1 _ ((a.2.2.ex e1).set hv)
end
section
variable {X : Cx}
/-- one datum in, from the world as it stands -/
theorem callM_ok {f : Value} {g : List MO → List D → Option D} (h : ∀ (w : Wr) (xs : List V) (ds : List D) (d : D) (Q : VK), Wd X.K w → Dts X.K w xs ds → g w.S ds = some d → (∀ w' v, w'.S = w.S → Ex w w' → Wd X.K w' → Dt X.K w' v d → Q v w'.H) →
    ∃ r, CallR X f r ∧ r xs w.H Q) : CallR X f (callM X.K g) := by
  rintro pins s σ H xs us Q I rv ⟨w, ds, d, rfl, wd, t, e, k⟩
  obtain ⟨r, hr, q⟩ := h w xs ds d Q wd t e k
  exact hr pins s σ _ xs us Q I rv q
def lenOf (S : List MO) : D → Option Nat
  | .str z => some z.length
  | x => (seqOf S x).map List.length
def lenD (S : List MO) : List D → Option D
  | [x] => (lenOf S x).map fun (n : Nat) => D.int (n : Nat)
  | _ => none
theorem lenOf_ok {K : Frag} {w : Wr} (d : Wd K w) {v : V} {x : D} {n : Nat} (h : Dt K w v x) (e : lenOf w.S x = some n) : LenV K v w.H n := by
  unfold lenOf at e
  split at e
  · cases e
    obtain ⟨rfl, hl⟩ := h.str_of
    exact ⟨hl, rfl⟩
  · rw [Option.map_eq_some_iff] at e
    obtain ⟨xs, e, rfl⟩ := e
    obtain ⟨a, vs, rfl, q | q, t⟩ := seqOf_ok d h e
    · exact .inr ⟨vs, q, t.length.symm⟩
    · exact .inl ⟨vs, q, t.length.symm⟩
theorem c_len : CallR X (.builtin "len") (callM X.K lenD) := callM_ok fun w xs ds d Q wd t e k => by
  unfold lenD at e
  split at e
  · rw [Option.map_eq_some_iff] at e
    obtain ⟨n, e, rfl⟩ := e
    obtain ⟨v, rfl, hv⟩ := Dats.one t
    exact ⟨_, call_len, v, n, rfl, lenOf_ok wd hv e, k w _ rfl (Ex.refl _) wd (.int _)⟩
  · cases e
def absD (_ : List MO) : List D → Option D
  | [.int i] => some (.int (if i < 0 then -i else i))
  | _ => none
theorem c_abs : CallR X (.builtin "abs") (callM X.K absD) := callM_ok fun w xs ds d Q wd t e k => by
  unfold absD at e
  split at e
  · cases e
    obtain ⟨v, rfl, hv⟩ := Dats.one t
    exact ⟨_, call_abs, _, by rw [hv.int_of], k w _ rfl (Ex.refl _) wd (.int _)⟩
  · cases e
def max2D (_ : List MO) : List D → Option D
  | [.int i, .int j] => some (.int (if j > i then j else i))
  | _ => none
theorem c_max2 (hc : X.calm = true) : CallR X (.builtin "max") (callM X.K max2D) := callM_ok fun w xs ds d Q wd t e k => by
  unfold max2D at e
  split at e
  · cases e
    obtain ⟨v, u, rfl, hv, hu⟩ := Dats.two t
    exact ⟨_, call_max2 hc, _, _, by rw [hv.int_of, hu.int_of], k w _ rfl (Ex.refl _) wd (.int _)⟩
  · cases e
def min2D (_ : List MO) : List D → Option D
  | [.int i, .int j] => some (.int (if j < i then j else i))
  | _ => none
theorem c_min2 (hc : X.calm = true) : CallR X (.builtin "min") (callM X.K min2D) := callM_ok fun w xs ds d Q wd t e k => by
  unfold min2D at e
  split at e
  · cases e
    obtain ⟨v, u, rfl, hv, hu⟩ := Dats.two t
    exact ⟨_, call_min2 hc, _, _, by rw [hv.int_of, hu.int_of], k w _ rfl (Ex.refl _) wd (.int _)⟩
  · cases e
def intD (_ : List MO) : List D → Option D
  | [.int i] => some (.int i)
  | [.bl b] => some (.int (if b then 1 else 0))
  | _ => none
theorem c_int : CallR X (.type "int") (callM X.K intD) := callM_ok fun w xs ds d Q wd t e k => by
  unfold intD at e
  split at e
  · cases e
    obtain ⟨v, rfl, hv⟩ := Dats.one t
    exact ⟨_, call_int1, .inl ⟨_, by rw [hv.int_of], k w _ rfl (Ex.refl _) wd (.int _)⟩⟩
  · cases e
    obtain ⟨v, rfl, hv⟩ := Dats.one t
    exact ⟨_, call_int1, .inr ⟨_, by rw [hv.bl_of], k w _ rfl (Ex.refl _) wd (.int _)⟩⟩
  · cases e
def boolsOf : List D → Option (List Bool)
  | [] => some []
  | .bl b :: ds => (boolsOf ds).map (b :: ·)
  | _ :: _ => none
/-- a list, not a tuple -/
def listOf (S : List MO) : D → Option (List D)
  | .lst xs => some xs
  | .fl xs => some xs
  | .ob n => match S[n]? with
    | some (.ml xs) => some xs
    | _ => none
  | _ => none
theorem listOf_ok {K : Frag} {w : Wr} (d : Wd K w) {v : V} {x : D} {xs : List D} (h : Dt K w v x) (e : listOf w.S x = some xs) : ∃ a vs, v = .ref a ∧ SqL K w.H a vs ∧ Dts K w vs xs := by
  cases h with
  | lst q _ t => cases e; exact ⟨_, _, rfl, SqL.of (d.fz _ _ q), t⟩
  | fl q _ t => cases e; exact ⟨_, _, rfl, SqL.same d.fz q, t⟩
  | ob n hn =>
    simp only [listOf] at e
    cases q : w.S[n]? with
    | none => rw [q] at e; cases e
    | some o =>
      rw [q] at e
      cases o with
      | ml ys =>
        cases e
        obtain ⟨vs, e1, t⟩ := d.ob n _ q
        exact ⟨_, vs, rfl, SqL.of e1, t⟩
      | _ => cases e
  | _ => cases e
def allD (S : List MO) : List D → Option D
  | [x] => (listOf S x).bind fun xs => (boolsOf xs).map fun bs => .bl (bs.all id)
  | _ => none
def anyD (S : List MO) : List D → Option D
  | [x] => (listOf S x).bind fun xs => (boolsOf xs).map fun bs => .bl (bs.any id)
  | _ => none
/-- tuple(x): a tuple is itself -/
def tupleD (S : List MO) : List D → Option D
  | [.tup xs] => some (.tup xs)
  | [x] => (listOf S x).bind fun xs => if xs.length ≤ sizeLine then some (.tup xs) else none
  | _ => none
def listD (S : List MO) : List D → Option D
  | [x] => (seqOf S x).bind fun xs => if xs.length ≤ sizeLine then some (.lst xs) else none
  | _ => none
def tyName (S : List MO) : D → Option String
  | .non => some "NoneType"
  | .bl _ => some "bool"
  | .int _ => some "int"
  | .str _ => some "str"
  | .tup _ => some "tuple"
  | .lst _ => some "list"
  | .fl _ => some "list"
  | .dk _ _ => some "dict"
  | .dt _ _ => some "dict"
  | .ob n => match S[n]? with
    | some (.ml _) => some "list"
    | some (.mk _ _) => some "dict"
    | some (.mt _ _) => some "dict"
    | _ => none
  | _ => none
def isiD (S : List MO) : List D → Option D
  | [x, .ty T] => (tyName S x).bind fun a => (kitB a T).map .bl
  | _ => none
def ixD (S : List MO) (x y : D) : Option D := match y with
  | .int i => match x with
    | .str z => (atI z.cps.toList i).map fun c => .str ⟨#[c]⟩
    | x => (seqOf S x).bind fun xs => atI xs i
  | _ => none
theorem Dats.atI {K : Frag} {w : Wr} {vs : List V} {ds : List D} {i : Int} {d : D} (t : Dts K w vs ds) (e : L2.atI ds i = some d) : ∃ v, L2.atI vs i = some v ∧ Dt K w v d := by
  unfold L2.atI at e ⊢
  rw [t.length]
  rw [Option.bind_eq_some_iff] at e
  obtain ⟨j, e1, e2⟩ := e
  obtain ⟨v, e3, r⟩ := t.get e2
  exact ⟨v, by rw [e1]; exact e3, r⟩
theorem IxR.imp {r r' : R2} (h : IxR X r) (i : ∀ x y H Q, r' x y H Q → r x y H Q) : IxR X r' := fun v0 sl0 pins s σ H x y v u Q I rx ry q => h v0 sl0 pins s σ H x y v u Q I rx ry (i _ _ _ _ q)
theorem i_ix : IxR X (opM X.K ixD) := IxR.imp ix_seq fun x y H Q ⟨w, dx, dy, d, e, wd, hx, hy, q, k⟩ => by
  subst e
  unfold ixD at q
  split at q
  · split at q
    · rw [Option.map_eq_some_iff] at q
      obtain ⟨c, q, rfl⟩ := q
      exact .inr (.inr ⟨_, _, c, hx.str_of.1, hy.int_of, hx.str_of.2, q, k w _ rfl (Ex.refl _) wd (.str _ (by show 1 ≤ sizeLine; decide))⟩)
    · rw [Option.bind_eq_some_iff] at q
      obtain ⟨xs, q, q2⟩ := q
      obtain ⟨a, vs, rfl, hq, t⟩ := seqOf_ok wd hx q
      obtain ⟨v, e1, r⟩ := t.atI q2
      rcases hq with hq | hq
      · exact .inr (.inl ⟨a, vs, _, v, rfl, hy.int_of, hq, e1, k w _ rfl (Ex.refl _) wd r⟩)
      · exact .inl ⟨a, vs, _, v, rfl, hy.int_of, hq, e1, k w _ rfl (Ex.refl _) wd r⟩
  · cases q
theorem pd_ix {W : WX} {a b : Expr} {ma mb : Rho → M D} {pos : Pos} (ha : PDE X W a ma) (hb : PDE X W b mb) (hs : PlainIx b := by exact fun _ _ => rfl) : PDE X W (.Subscript a b pos) (do2 ma mb ixD) :=
  PE.imp (pe_ix i_ix ha hb hs) fun _ _ _ h => tOp_of h
theorem PO.imp {e : Option Expr} {t t' : TO} (h : PO X e t) (i : ∀ σ H Q, t' σ H Q → t σ H Q) : PO X e t' := ⟨fun pins s σ H Q I q => h.run pins s σ H Q I (i _ _ _ q)⟩
def intOf : D → M (Option Int)
  | .int i => pure (some i)
  | _ => bad
def cutL {α : Type} (xs : List α) (lo hi : Option Int) : List α := (xs.drop (HT.sIx xs.length 0 lo)).take (HT.sIx xs.length xs.length hi - HT.sIx xs.length 0 lo)
def slD (S : List MO) (x : D) (lo hi : Option Int) : Option D := match x with
  | .str z => some (.str (cutS z lo hi))
  | .tup xs => some (.tup (cutL xs lo hi))
  | x => (listOf S x).bind fun xs => if xs.length ≤ sizeLine then some (.lst (cutL xs lo hi)) else none
def sliceM (m : Rho → M D) (ml mh : Rho → M (Option Int)) : Rho → M D := fun ρ => m ρ >>= fun x => ml ρ >>= fun lo => mh ρ >>= fun hi => opd1 (fun S x => slD S x lo hi) x
def tyD (T : String) (S : List MO) (x : D) : Bool := match x with
  | .str _ => T == "str"
  | .dk _ _ => T == "dict"
  | .dt _ _ => T == "dict"
  | x => match listOf S x with
    | some _ => T == "list"
    | none => false
theorem tyD_ok {K : Frag} {w : Wr} (d : Wd K w) {v : V} {x : D} {T : String} (h : Dt K w v x) (e : tyD T w.S x = true) : tyV K T v w.H := by
  unfold tyD at e
  split at e
  · obtain ⟨rfl, _⟩ := h.str_of; exact beq_iff_eq.mp e
  · cases h with
    | dk q _ _ t => exact .inr (.inr (.inl ⟨beq_iff_eq.mp e, .inl ⟨_, d.fz _ _ q⟩⟩))
  · cases h with
    | dt q _ _ t => exact .inr (.inr (.inl ⟨beq_iff_eq.mp e, .inr ⟨_, d.fz _ _ q⟩⟩))
  · split at e
    · obtain ⟨a, vs, rfl, q, t⟩ := listOf_ok d h (by assumption)
      exact .inl ⟨beq_iff_eq.mp e, vs, q⟩
    · cases e
def oplm (g : List MO → D → List D → Option D) (x : D) (xs : List D) : M D := fun S => toRes (g S x xs) S
def needT (T : String) (x : D) : M Unit := fun S => if tyD T S x = true then .ok () S else .bad
def methM (T : String) (m : Rho → M D) (ms : Rho → M (List D)) (g : List MO → D → List D → Option D) : Rho → M D := fun ρ => m ρ >>= fun x => needT T x >>= fun _ => ms ρ >>= fun xs => oplm g x xs
theorem Pst.needT {K : Frag} {W : XK} {w : Wr} {T : String} {x : D} {k : Unit → Wr → Prop} (h : Pst K W w (needT T x w.S) k) : tyD T w.S x = true ∧ ∀ w', w'.S = w.S → Ex w w' → Wd K w' → k () w' := by
  unfold PD.needT at h
  by_cases c : tyD T w.S x = true
  · rw [if_pos c] at h; exact ⟨c, h⟩
  · rw [if_neg c] at h; exact h.elim
theorem MtR.imp {id : String} {r r' : V → List V → Hp → VK → Prop} (h : MtR X id r) (i : ∀ x xs H Q, r' x xs H Q → r x xs H Q) : MtR X id r' := fun pins s σ H x xs v us Q I rx rv q => h pins s σ H x xs v us Q I rx rv (i _ _ _ _ q)
def strsOf : List D → Option (List Str)
  | [] => some []
  | .str b :: ds => (strsOf ds).map (b :: ·)
  | _ :: _ => none
def joinD (S : List MO) (x : D) (xs : List D) : Option D := match x, xs with
  | .str a, [y] => (seqOf S y).bind fun ds => (strsOf ds).bind fun ys => if (ys.map (·.length)).sum + ys.length * a.length ≤ 16777216 ∧ (Txt.join a ys).length ≤ sizeLine then some (.str (Txt.join a ys)) else none
  | _, _ => none
def upperD (_ : List MO) (x : D) (xs : List D) : Option D := match x, xs with
  | .str a, [] => if a.length ≤ 5592405 ∧ (Txt.upper a).length ≤ sizeLine then some (.str (Txt.upper a)) else none
  | _, _ => none
end
section
variable {K : Frag} {w : Wr}
theorem MOk.ex' {w' : Wr} {a : Addr} {o : MO} (x : Ex w w') (hH : w'.H a = w.H a) (h : MOk K w a o) : MOk K w' a o := by
  cases o with
  | ml ds => obtain ⟨vs, e, t⟩ := h; exact ⟨vs, hH.trans e, Dts.ex x t⟩
  | mk ks ds => obtain ⟨vs, e, l, t⟩ := h; exact ⟨vs, hH.trans e, l, Dts.ex x t⟩
  | mt ks ds => obtain ⟨vs, e, l, t⟩ := h; exact ⟨vs, hH.trans e, l, Dts.ex x t⟩
  | mi C ns ds => obtain ⟨dx, vs, e, l, t⟩ := h; exact ⟨dx, vs, hH.trans e, l, Dts.ex x t⟩
  | tb _ _ => exact MOk.tbm h hH x.fz
/-- the state with a new thing at p -/
def Wr.add (w : Wr) (p : Addr) (u : HO) (o : MO) : Wr := { ι := fun n => if n = w.S.length then p else w.ι n, B := w.B, S := w.S ++ [o], H := upd w.H p u }
theorem Wr.add_ex (d : Wd K w) {p : Addr} {u : HO} {o : MO} (hp : w.H p = none) : Ex w (w.add p u o) := by
  refine ⟨by show w.S.length ≤ (w.S ++ [o]).length; rw [List.length_append]; omega, fun n hn => by show (if n = w.S.length then p else w.ι n) = _; rw [if_neg (by omega)], fun a x h => h, fun a x h => .inl h, fun n h1 h2 => ?_, fun a x h _ => ?_⟩
  · have h2 : n < (w.S ++ [o]).length := h2
    rw [List.length_append, List.length_singleton] at h2
    show w.H (if n = w.S.length then p else w.ι n) = none
    rw [if_pos (by omega)]; exact hp
  · show upd w.H p u a = some x
    rw [upd_ne (fun z => by rw [z, hp] at h; cases h)]; exact h
theorem Wr.add_wd (d : Wd K w) {p : Addr} {u : HO} {o : MO} (hp : w.H p = none) (hB : w.B p = none := by first | assumption | skip) (ho : MOk K (w.add p u o) p o) : Wd K (w.add p u o) := by
  have np : ∀ n, n < w.S.length → w.ι n ≠ p := fun n hn z => by
    obtain ⟨x, e⟩ := d.there hn
    rw [z, hp] at e; cases e
  have il : ∀ n, n < w.S.length → (w.add p u o).ι n = w.ι n := fun n hn => by show (if n = w.S.length then p else w.ι n) = _; rw [if_neg (by omega)]
  have il2 : (w.add p u o).ι w.S.length = p := by show (if w.S.length = w.S.length then p else _) = p; rw [if_pos rfl]
  have ln : (w.add p u o).S.length = w.S.length + 1 := by show (w.S ++ [o]).length = _; rw [List.length_append, List.length_singleton]
  refine ⟨fun a x h => ?_, fun n hn => ?_, fun n x h => ?_, fun n m h1 h2 e => ?_⟩
  · show upd w.H p u a = some x
    have h : w.B a = some x := h
    rw [upd_ne (fun z => by rw [z, hB] at h; cases h)]; exact d.fz a x h
  · show w.B ((w.add p u o).ι n) = none
    by_cases hc : n < w.S.length
    · rw [il n hc]; exact d.sp n hc
    · have : n = w.S.length := by omega
      subst this; rw [il2]; exact hB
  · have h : (w.S ++ [o])[n]? = some x := h
    by_cases hc : n < w.S.length
    · rw [List.getElem?_append_left hc] at h
      rw [il n hc]
      exact MOk.ex' (Wr.add_ex d hp) (by show upd w.H p u (w.ι n) = _; exact upd_ne (np n hc)) (d.ob n x h)
    · have hn : n < (w.S ++ [o]).length := (List.getElem?_eq_some_iff.mp h).1
      rw [List.length_append, List.length_singleton] at hn
      have : n = w.S.length := by omega
      subst this
      rw [List.getElem?_append_right (Nat.le_refl _), Nat.sub_self] at h
      cases h
      rw [il2]; exact ho
  · rw [ln] at h1 h2
    by_cases c1 : n < w.S.length <;> by_cases c2 : m < w.S.length
    · rw [il n c1, il m c2] at e; exact d.inj n m c1 c2 e
    · have : m = w.S.length := by omega
      subst this
      rw [il n c1, il2] at e; exact absurd e (np n c1)
    · have : n = w.S.length := by omega
      subst this
      rw [il m c2, il2] at e; exact absurd e.symm (np m c2)
    · omega
theorem Wd.noB (d : Wd K w) {p : Addr} (hp : w.H p = none) : w.B p = none := by
  cases e : w.B p with
  | none => rfl
  | some u => rw [d.fz _ _ e] at hp; cases hp
theorem new_ml {p : Addr} {vs : List V} {ds : List D} (d : Wd K w) (hp : w.H p = none) (t : Dts K w vs ds) :
    ∃ w', w'.S = w.S ++ [.ml ds] ∧ w'.H = upd w.H p (.lst vs) ∧ Ex w w' ∧ Wd K w' ∧ Dt K w' (.ref p) (.ob w.S.length) := by
  have x := Wr.add_ex (u := .lst vs) (o := .ml ds) d hp
  refine ⟨w.add p (.lst vs) (.ml ds), rfl, rfl, x, Wr.add_wd d hp (d.noB hp) ⟨vs, by show upd w.H p _ p = _; exact upd_same, Dts.ex x t⟩, ?_⟩
  have h := Dat.ob (K := K) (ι := (w.add p (.lst vs) (.ml ds)).ι) (B := (w.add p (.lst vs) (.ml ds)).B) (N := (w.add p (.lst vs) (.ml ds)).S.length) w.S.length (by show w.S.length < (w.S ++ [MO.ml ds]).length; rw [List.length_append, List.length_singleton]; omega)
  have e : (w.add p (.lst vs) (.ml ds)).ι w.S.length = p := by show (if w.S.length = w.S.length then p else _) = p; rw [if_pos rfl]
  rw [e] at h
  exact h
/-- a thing of the store is written -/
theorem Wd.write {n : Nat} {o o' : MO} {u : HO} (d : Wd K w) (h : w.S[n]? = some o) (ho : MOk K { w with S := w.S.set n o', H := upd w.H (w.ι n) u } (w.ι n) o') :
    Wd K { w with S := w.S.set n o', H := upd w.H (w.ι n) u } ∧ Ex w { w with S := w.S.set n o', H := upd w.H (w.ι n) u } := by
  have hn : n < w.S.length := (List.getElem?_eq_some_iff.mp h).1
  have ex : Ex w { w with S := w.S.set n o', H := upd w.H (w.ι n) u } := by
    refine ⟨by show _ ≤ (w.S.set n o').length; rw [List.length_set]; exact Nat.le_refl _, fun _ _ => rfl, fun _ _ q => q, fun _ _ q => .inl q, fun m h1 h2 => ?_, fun a x q ne => ?_⟩
    · have h2 : m < (w.S.set n o').length := h2
      rw [List.length_set] at h2; omega
    · show upd w.H (w.ι n) u a = some x
      rw [upd_ne (ne n hn)]; exact q
  refine ⟨⟨fun a x q => ?_, fun m hm => ?_, fun m x q => ?_, fun m1 m2 h1 h2 e => ?_⟩, ex⟩
  · show upd w.H (w.ι n) u a = some x
    have q : w.B a = some x := q
    rw [upd_ne (fun z => by have := d.sp n hn; rw [← z, q] at this; cases this)]; exact d.fz a x q
  · have hm : m < (w.S.set n o').length := hm
    rw [List.length_set] at hm
    exact d.sp m hm
  · have q : (w.S.set n o')[m]? = some x := q
    by_cases z : n = m
    · subst z
      rw [List.getElem?_set_self hn] at q
      cases q
      exact ho
    · rw [List.getElem?_set_ne z] at q
      have hm : m < w.S.length := (List.getElem?_eq_some_iff.mp q).1
      exact MOk.ex' ex (by show upd w.H (w.ι n) u (w.ι m) = _; exact upd_ne (fun e => z (d.inj m n hm hn e).symm)) (d.ob m x q)
  · have h1 : m1 < (w.S.set n o').length := h1
    have h2 : m2 < (w.S.set n o').length := h2
    rw [List.length_set] at h1 h2
    exact d.inj m1 m2 h1 h2 e
theorem put_ml {n : Nat} {xs ds : List D} {vs : List V} (d : Wd K w) (h : w.S[n]? = some (.ml xs)) (t : Dts K w vs ds) :
    ∃ w', w'.S = w.S.set n (.ml ds) ∧ w'.H = upd w.H (w.ι n) (.lst vs) ∧ Ex w w' ∧ Wd K w' := by
  have hn : n < w.S.length := (List.getElem?_eq_some_iff.mp h).1
  obtain ⟨d2, x2⟩ := Wd.write (o' := .ml ds) (u := .lst vs) d h ⟨vs, by show upd w.H (w.ι n) _ (w.ι n) = _; exact upd_same, Dats.mono (by show _ ≤ (w.S.set n _).length; rw [List.length_set]; exact Nat.le_refl _) (fun _ _ => rfl) (fun _ _ q => q) t⟩
  exact ⟨_, rfl, rfl, x2, d2⟩
end
section
variable {X : Cx} {W : WX} {e : Expr} {es : List Expr} {m mo mi me : Rho → M D} {ms : Rho → M (List D)} {p pos : Pos}
def newL (xs : List D) : M D := if xs.length ≤ sizeLine then alloc (.ml xs) else bad
def objMs (ms : Rho → M (List D)) : Rho → M D := fun ρ => ms ρ >>= fun xs => newL xs
/-- a display that will be changed -/
theorem pd_obj (h : PDA X W es ms) : PDE X W (.List es pos) (objMs ms) := PE.imp (pe_lst h) fun σ H Q ⟨w, ρ, a, h⟩ =>
  tA_bind (f := fun _ xs => newL xs) a h fun ds vs w1 e1 a1 hvs h1 => by
    unfold newL at h1
    by_cases hl : ds.length ≤ sizeLine
    · rw [if_pos hl] at h1
      refine ⟨by rw [hvs.length]; exact hl, fun p hp => ?_⟩
      obtain ⟨w2, hS, hH, x2, d2, t2⟩ := new_ml a1.2.1 hp hvs
      have := h1 w2 hS x2 d2 _ t2
      rw [hH] at this
      exact this
    · rw [if_neg hl] at h1; exact h1.elim
def storeL (o i v : D) : M Unit := fun S => match o, i with
  | .ob n, .int k => match S[n]? with
    | some (.ml xs) => match ixN xs.length k with
      | some j => .ok () (S.set n (.ml (xs.set j v)))
      | none => .bad
    | _ => .bad
  | _, _ => .bad
def setIxS (mo mi me : Rho → M D) : Rho → M Fl := fun ρ => me ρ >>= fun v => mo ρ >>= fun o => mi ρ >>= fun i => storeL o i v >>= fun _ => pure (.nx ρ)
theorem Pst.storeL {K : Frag} {W : XK} {w : Wr} {o i v : D} {k : Unit → Wr → Prop} (h : Pst K W w (storeL o i v w.S) k) : ∃ n z xs j, o = .ob n ∧ i = .int z ∧ w.S[n]? = some (.ml xs) ∧ ixN xs.length z = some j ∧ ∀ w', w'.S = w.S.set n (.ml (xs.set j v)) → Ex w w' → Wd K w' → k () w' := by
  unfold PD.storeL at h
  split at h
  · split at h
    · split at h
      · exact ⟨_, _, _, _, rfl, rfl, by assumption, by assumption, h⟩
      · exact h.elim
    · exact h.elim
  · exact h.elim
theorem pds_setIx {o i : Expr} {pos2 : Pos} (he : PDE X W e me) (ho : PDE X W o mo) (hi : PDE X W i mi)
    (ha : ∀ v, assign (.Subscript o i pos) X.env v = (do
      let ov ← holding [v] (eval o X.env)
      let iv ← holding [v, ov] (eval i X.env)
      standAt pos
      holding [v, ov, iv] (setItem ov iv v)
      release [v, ov, iv] []) := by intro _; rfl) (hs : swapsWithSole [.Subscript o i pos] e pos2.line X.env = pure false := by rfl) (hw : swappedStores [.Subscript o i pos] e X.env = pure none := by rfl)
    (h1 : (assignEach [.Subscript o i pos] X.env).map (·.2) = [assign (.Subscript o i pos) X.env] := by rfl) : PDS X W (.Assign [.Subscript o i pos] e pos2) (setIxS mo mi me) :=
  PS.imp (ps_asg he (pg_sub ho hi set_list ha) hs hw h1) fun Dn σ H ⟨w, ρ, a, h⟩ =>
    tE_bind (f := fun ρ v => mo ρ >>= fun o => mi ρ >>= fun i => storeL o i v >>= fun _ => pure (Fl.nx ρ)) a h fun d v w1 e1 a1 hv h1 =>
      tE_bind (f := fun ρ o => mi ρ >>= fun i => storeL o i d >>= fun _ => pure (Fl.nx ρ)) a1 h1 fun o ov w2 e2 a2 ho h2 =>
        tE_bind (f := fun ρ i => storeL o i d >>= fun _ => pure (Fl.nx ρ)) a2 h2 fun i iv w3 e3 a3 hi h3 => by
          obtain ⟨n, z, xs, j, rfl, rfl, hS, hj, q⟩ := Pst.storeL (Pst.bind h3)
          obtain ⟨vs, eH, t⟩ := a3.2.1.ob n _ hS
          have ho3 := Dt.ex e3 ho
          cases ho3
          have hv3 := Dt.ex e3 (Dt.ex e2 hv)
          refine ⟨_, vs, z, j, rfl, hi.int_of, eH, by rw [t.length]; exact hj, ?_⟩
          obtain ⟨w4, hS4, hH4, x4, d4⟩ := put_ml a3.2.1 hS (t.set hv3 j)
          have := q w4 hS4 x4 d4 w4 rfl (Ex.refl _) d4 σ (a3.2.2.ex x4)
          rw [hH4] at this
          exact this
def mulD (S : List MO) (x y : D) : Option D := match x, y with
  | .int i, .int j => if (-(2 ^ 64) < i ∧ i < 2 ^ 64) ∨ (-(2 ^ 64) < j ∧ j < 2 ^ 64) then some (.int (i * j)) else none
  | .str z, .int k => if 0 ≤ k ∧ k ≤ 1000 ∧ z.length ≤ 1000 then some (.str ⟨(List.replicate k.toNat z.cps.toList).flatten.toArray⟩) else none
  | x, .int k => (lstOf S x).bind fun xs => if 0 ≤ k ∧ k < 2 ^ 63 ∧ xs.length * k.toNat ≤ sizeLine then some (.lst (List.replicate k.toNat xs).flatten) else none
  | _, _ => none
theorem Dats.rep {K : Frag} {ι : Nat → Addr} {N : Nat} {B : Hp} {vs : List V} {ds : List D} (t : Dats K ι N B vs ds) : ∀ k : Nat, Dats K ι N B (List.replicate k vs).flatten (List.replicate k ds).flatten
  | 0 => .nil
  | k + 1 => by
    rw [List.replicate_succ, List.replicate_succ, List.flatten_cons, List.flatten_cons]
    exact t.append (Dats.rep t k)
theorem rep_len {α : Type} (xs : List α) (k : Nat) : (List.replicate k xs).flatten.length = xs.length * k := by
  rw [List.length_flatten, List.map_replicate, List.sum_replicate_nat, Nat.mul_comm]
theorem foldl_arr (xs : Array Nat) (k : Nat) : (List.replicate k xs).foldl (· ++ ·) #[] = (List.replicate k xs.toList).flatten.toArray := by
  have : ∀ (k : Nat) (acc : Array Nat), (List.replicate k xs).foldl (· ++ ·) acc = acc ++ (List.replicate k xs.toList).flatten.toArray := by
    intro k
    induction k with
    | zero => intro acc; simp
    | succ k ih =>
      intro acc
      rw [List.replicate_succ, List.foldl_cons, ih, List.replicate_succ, List.flatten_cons, Array.append_assoc]
      congr 1
      simp
  rw [this k #[]]
  simp
theorem op_mul_str : OpR X (binaryOp .Mult) (fun x y H Q => ∃ z k, x = .str z ∧ y = .int k ∧ 0 ≤ k ∧ k ≤ 1000 ∧ z.length ≤ 1000 ∧ Q (.str ⟨(List.replicate k.toNat z.cps.toList).flatten.toArray⟩) H) := by
  intro pins s σ H x y v u Q I rx ry ⟨z, k, e1, e2, h0, h1, h2, q⟩
  subst e1; subst e2
  obtain ⟨t, rfl⟩ := rx
  obtain ⟨t', rfl⟩ := ry
  have hz : z.length * k.toNat ≤ 1000000 := by
    have : k.toNat ≤ 1000 := by omega
    calc z.length * k.toNat ≤ 1000 * 1000 := Nat.mul_le_mul h2 this
      _ = 1000000 := rfl
  refine PySem.P.mul_str (by rw [decide_eq_false (by omega), decide_eq_false (by omega)]; rfl) (fun h3 _ => ?_) (fun h3 _ => ?_) ?_
  · have hk : 0 < k := by omega
    have h5 : (z.length : Int) * k ≤ 2 ^ 63 - 1 := by
      have h6 : ((z.length * k.toNat : Nat) : Int) ≤ 1000000 := Int.ofNat_le.mpr hz
      rw [Int.natCast_mul, Int.toNat_of_nonneg h0] at h6
      have : (1000000 : Int) ≤ 2 ^ 63 - 1 := by decide
      omega
    have := (Int.le_ediv_iff_mul_le hk).mpr h5
    omega
  · show decide (_ > sizeLine) = false
    exact decide_eq_false (fun c => by
      have : (1000000 : Nat) < sizeLine := by decide
      omega)
  · by_cases hk : k < 1
    · rw [if_pos hk]
      have e0 : k.toNat = 0 := by omega
      rw [e0] at q
      exact ⟨by decide, ⟨.str Str.empty, H, I.tok _, ⟨_, rfl⟩, q⟩⟩
    · rw [if_neg hk]
      by_cases hc : (k == 1 || z.length == 0) = true
      · rw [if_pos hc]
        have e1 : (⟨(List.replicate k.toNat z.cps.toList).flatten.toArray⟩ : Str) = z := by
          rw [Bool.or_eq_true] at hc
          rcases hc with hc | hc
          · have : k = 1 := by simpa using hc
            subst this
            obtain ⟨c⟩ := z
            simp
          · have hz0 : z.cps.size = 0 := beq_iff_eq.mp hc
            obtain ⟨c⟩ := z
            have : c = #[] := Array.size_eq_zero_iff.mp hz0
            subst this
            simp
        rw [e1] at q
        exact ⟨.str z, H, I, ⟨_, rfl⟩, q⟩
      · rw [if_neg hc]
        rw [← foldl_arr] at q
        refine ⟨?_, ⟨.str _, H, I.tok _, ⟨_, rfl⟩, q⟩⟩
        show ((List.replicate k.toNat z.cps).foldl (· ++ ·) #[]).size ≤ sizeLine
        rw [foldl_arr, List.size_toArray, rep_len, Array.length_toList]
        exact Nat.le_trans hz (by decide)
theorem o_mul : OpR X (binaryOp .Mult) (opM X.K mulD) := by
  rintro pins s σ H x y v u Q I rx ry ⟨w, dx, dy, d, rfl, wd, hx, hy, q, k⟩
  unfold mulD at q
  split at q
  · split at q
    · rename_i hc
      cases q
      exact op_mul pins s σ _ x y v u Q I rx ry ⟨_, _, hx.int_of, hy.int_of, hc, k w _ rfl (Ex.refl _) wd (.int _)⟩
    · cases q
  · split at q
    · rename_i z i hc
      cases q
      refine op_mul_str pins s σ _ x y v u Q I rx ry ⟨_, _, hx.str_of.1, hy.int_of, hc.1, hc.2.1, hc.2.2, k w _ rfl (Ex.refl _) wd (.str _ ?_)⟩
      show ((List.replicate i.toNat z.cps.toList).flatten.toArray).size ≤ sizeLine
      rw [List.size_toArray, rep_len, Array.length_toList]
      have h1 : z.cps.size ≤ 1000 := hc.2.2
      have h2 : i.toNat ≤ 1000 := by omega
      exact Nat.le_trans (Nat.mul_le_mul h1 h2) (by decide)
    · cases q
  · rw [Option.bind_eq_some_iff] at q
    obtain ⟨xs, e, q⟩ := q
    split at q
    · rename_i hc
      cases q
      obtain ⟨a, vs, rfl, hH, t⟩ := lstOf_ok wd hx e
      refine op_rep pins s σ _ _ y v u Q I rx ry ⟨a, _, vs, rfl, hy.int_of, hH, by omega, hc.2.1, by rw [t.length]; exact hc.2.2, fun p hp => ?_⟩
      obtain ⟨w2, hS, hH2, x2, d2, t3⟩ := new_lst wd hp (Dats.rep t _) (by rw [rep_len]; exact hc.2.2)
      have := k w2 _ hS x2 d2 t3
      rw [hH2] at this
      exact this
    · cases q
  · cases q
def powDW : List MO → D → D → Option D := onI (fun i j => decide (0 ≤ j ∧ (Builtin.Int.intBits i : Int) * j ≤ 2 ^ 27)) fun i j => .int (i ^ j.toNat)
theorem o_powW : OpR X (binaryOp .Pow) (opM X.K powDW) :=
  opI_ok (C := fun i j => 0 ≤ j ∧ (Builtin.Int.intBits i : Int) * j ≤ 2 ^ 27) (g := fun i j => .int (i ^ j.toNat)) (opI fun _ _ _ _ _ _ _ hc q => pow_int hc.1 hc.2 q) (fun i j h => of_decide_eq_true h) fun w i j => .int _
def reprBD (_ : List MO) : List D → Option D
  | [.bl b] => some (.str (if b then "True" else "False"))
  | _ => none
end
def putD {κ α : Type} [DecidableEq κ] (ks : List κ) (ds : List α) (k : κ) (d : α) : List κ × List α :=
  if ks.any (fun x => decide (x = k)) = true then (ks, (ks.zip ds).map fun p => if p.1 = k then d else p.2) else (ks ++ [k], ds ++ [d])
section
variable {K : Frag} {ι : Nat → Addr} {N : Nat} {B : Hp}
theorem Dats.mapz {κ : Type} [DecidableEq κ] {k : κ} {v : V} {d : D} (hv : Dat K ι N B v d) : ∀ {ks : List κ} {vs : List V} {ds : List D}, Dats K ι N B vs ds → ks.length = vs.length → Dats K ι N B ((ks.zip vs).map fun p => if p.1 = k then v else p.2) ((ks.zip ds).map fun p => if p.1 = k then d else p.2)
  | [], _, _, _, _ => by simp; exact .nil
  | k0 :: ks, _, _, .cons h t, hl => by
    simp only [List.zip_cons_cons, List.map_cons]
    refine .cons ?_ (Dats.mapz hv t (by simpa using hl))
    split
    · exact hv
    · exact h
theorem Dats.put {κ : Type} [DecidableEq κ] {ks : List κ} {k : κ} {v : V} {d : D} (hv : Dat K ι N B v d) {vs : List V} {ds : List D} (t : Dats K ι N B vs ds) (hl : ks.length = vs.length) : Dats K ι N B (putD ks vs k v).2 (putD ks ds k d).2 := by
  unfold putD
  split
  · exact t.mapz hv hl
  · exact t.append (.cons hv .nil)
end
def keyOf : D → Option Key
  | .int i => some (.inl i)
  | .str x => some (.inr x)
  | _ => none
theorem keyOf_ok {K : Frag} {ι : Nat → Addr} {N : Nat} {B : Hp} {v : V} {d : D} {k : Key} (h : Dat K ι N B v d) (e : keyOf d = some k) : v = kV k := by
  cases d with
  | int i => cases e; exact h.int_of
  | str x => cases e; exact h.str_of.1
  | _ => cases e
def pairsM : List ((Rho → M D) × (Rho → M D)) → Rho → M (List (D × D))
  | [], _ => pure []
  | (mk, mv) :: r, ρ => mk ρ >>= fun k => mv ρ >>= fun v => pairsM r ρ >>= fun ps => pure ((k, v) :: ps)
def mergeD : List (D × D) → List Key → List D → Option (List Key × List D)
  | [], ks, ds => some (ks, ds)
  | (k, v) :: r, ks, ds => (keyOf k).bind fun k => mergeD r (putD ks ds k v).1 (putD ks ds k v).2
def mkDict (ps : List (D × D)) : M D := if ps.length ≤ 15 then lift ((mergeD ps [] []).map fun z => .dk z.1 z.2) else bad
def dispM (ps : List ((Rho → M D) × (Rho → M D))) : Rho → M D := fun ρ => pairsM ps ρ >>= mkDict
inductive PDPs (X : Cx) (W : WX) (pos : Pos) : List (Option Expr) → List Expr → List ((Rho → M D) × (Rho → M D)) → Prop
  | nil : PDPs X W pos [] [] []
  | cons {k v : Expr} {ks : List (Option Expr)} {vs : List Expr} {mk mv : Rho → M D} {r : List ((Rho → M D) × (Rho → M D))} : PDE X W k mk → PDE X W v mv → PDPs X W pos ks vs r → PDPs X W pos (some k :: ks) (v :: vs) ((mk, mv) :: r)
/-- {} that stays empty -/
theorem pd_nodict {X : Cx} {W : WX} {pos : Pos} : PDE X W (.Dict [] [] pos) (fun _ => pure (.dk [] [])) := PE.imp pe_dnewK fun σ H Q ⟨w, ρ, a, h⟩ => by
  intro p hp
  obtain ⟨rfl, d, l⟩ := a
  obtain ⟨d2, x2⟩ := d.settle (o := .dK []) hp
  exact h { w with B := upd w.B p (.dK []), H := upd w.H p (.dK []) } rfl x2 d2 _ (.dk (vs := []) (by show upd w.B p _ p = _; exact upd_same) rfl (Nat.zero_le _) .nil)
theorem thenF_nx (n : Rho → M Fl) (ρ : Rho) : thenF n (.nx ρ) = n ρ := (rfl)
theorem thenF_rt (n : Rho → M Fl) (d : D) : thenF n (.rt d) = pure (.rt d) := (rfl)
theorem thenF_bk (n : Rho → M Fl) (ρ : Rho) : thenF n (.bk ρ) = pure (.bk ρ) := (rfl)
theorem thenF_ct (n : Rho → M Fl) (ρ : Rho) : thenF n (.ct ρ) = pure (.ct ρ) := (rfl)
theorem isB_bl (b : Bool) : isB (.bl b) = pure b := (rfl)
theorem retF_rt (d : D) : retF (.rt d) = pure d := (rfl)
theorem retF_nx (ρ : Rho) : retF (.nx ρ) = pure .non := (rfl)
theorem itemsOf_tup (xs : List D) : itemsOf (.tup xs) = pure xs := (rfl)
theorem itemsOf_lst (xs : List D) : itemsOf (.lst xs) = pure xs := (rfl)
theorem itemsOf_fl (xs : List D) : itemsOf (.fl xs) = pure xs := (rfl)
theorem itemsOf_str (z : Str) : itemsOf (.str z) = pure (strD z) := (rfl)
theorem tyName_non (S : List MO) : tyName S (.non) = some "NoneType" := (rfl)
theorem tyName_bl (S : List MO) (b : Bool) : tyName S (.bl b) = some "bool" := (rfl)
theorem tyName_int (S : List MO) (i : Int) : tyName S (.int i) = some "int" := (rfl)
theorem tyName_str (S : List MO) (z : Str) : tyName S (.str z) = some "str" := (rfl)
theorem tyName_tup (S : List MO) (xs : List D) : tyName S (.tup xs) = some "tuple" := (rfl)
theorem tyName_lst (S : List MO) (xs : List D) : tyName S (.lst xs) = some "list" := (rfl)
theorem tyName_fl (S : List MO) (xs : List D) : tyName S (.fl xs) = some "list" := (rfl)
theorem tyName_dk (S : List MO) (ks : List Key) (vs : List D) : tyName S (.dk ks vs) = some "dict" := (rfl)
theorem tyName_dt (S : List MO) (ks : List (List Key)) (vs : List D) : tyName S (.dt ks vs) = some "dict" := (rfl)
theorem seqOf_tup (S : List MO) (xs : List D) : seqOf S (.tup xs) = some xs := (rfl)
theorem lenOf_tup (S : List MO) (xs : List D) : lenOf S (.tup xs) = some xs.length := (rfl)
theorem seqOf_lst (S : List MO) (xs : List D) : seqOf S (.lst xs) = some xs := (rfl)
theorem lenOf_lst (S : List MO) (xs : List D) : lenOf S (.lst xs) = some xs.length := (rfl)
theorem seqOf_fl (S : List MO) (xs : List D) : seqOf S (.fl xs) = some xs := (rfl)
theorem lenOf_fl (S : List MO) (xs : List D) : lenOf S (.fl xs) = some xs.length := (rfl)
theorem listOf_lst (S : List MO) (xs : List D) : listOf S (.lst xs) = some xs := (rfl)
theorem listOf_fl (S : List MO) (xs : List D) : listOf S (.fl xs) = some xs := (rfl)
theorem lstOf_lst (S : List MO) (xs : List D) : lstOf S (.lst xs) = some xs := (rfl)
theorem lenOf_str (S : List MO) (z : Str) : lenOf S (.str z) = some z.length := (rfl)
theorem lenD_1 (S : List MO) (x : D) : lenD S [x] = (lenOf S x).map fun (n : Nat) => D.int (n : Nat) := (rfl)
theorem allD_1 (S : List MO) (x : D) : allD S [x] = (listOf S x).bind fun xs => (boolsOf xs).map fun bs => .bl (bs.all id) := (rfl)
theorem anyD_1 (S : List MO) (x : D) : anyD S [x] = (listOf S x).bind fun xs => (boolsOf xs).map fun bs => .bl (bs.any id) := (rfl)
theorem isi_eq (S : List MO) (x : D) (T : String) : isiD S [x, .ty T] = (tyName S x).bind fun a => (kitB a T).map .bl := (rfl)
theorem ltD_ii (S : List MO) (i j : Int) : ltD S (.int i) (.int j) = some (.bl (decide (i < j))) := (rfl)
theorem ltD_ss (S : List MO) (a b : Str) : ltD S (.str a) (.str b) = some (.bl (decide (a.cps.toList < b.cps.toList))) := (rfl)
theorem leD_ii (S : List MO) (i j : Int) : leD S (.int i) (.int j) = some (.bl (decide (i ≤ j))) := (rfl)
theorem leD_ss (S : List MO) (a b : Str) : leD S (.str a) (.str b) = some (.bl (!decide (b.cps.toList < a.cps.toList))) := (rfl)
theorem gtD_ii (S : List MO) (i j : Int) : gtD S (.int i) (.int j) = some (.bl (decide (j < i))) := (rfl)
theorem gtD_ss (S : List MO) (a b : Str) : gtD S (.str a) (.str b) = some (.bl (decide (b.cps.toList < a.cps.toList))) := (rfl)
theorem geD_ii (S : List MO) (i j : Int) : geD S (.int i) (.int j) = some (.bl (decide (j ≤ i))) := (rfl)
theorem geD_ss (S : List MO) (a b : Str) : geD S (.str a) (.str b) = some (.bl (!decide (a.cps.toList < b.cps.toList))) := (rfl)
theorem onI_ii (p : Int → Int → Bool) (f : Int → Int → D) (S : List MO) (i j : Int) : onI p f S (.int i) (.int j) = if p i j = true then some (f i j) else none := (rfl)
theorem addD_ii (S : List MO) (i j : Int) : addD S (.int i) (.int j) = some (.int (i + j)) := (rfl)
theorem addD_ss (S : List MO) (a b : Str) : addD S (.str a) (.str b) = if a.length + b.length ≤ sizeLine then some (.str (a ++ b)) else none := (rfl)
theorem addD_tt (S : List MO) (a b : List D) : addD S (.tup a) (.tup b) = if a.length + b.length ≤ sizeLine then some (.tup (a ++ b)) else none := (rfl)
theorem addD_ll (S : List MO) (a b : List D) : addD S (.lst a) (.lst b) = if a.length + b.length ≤ sizeLine then some (.lst (a ++ b)) else none := (rfl)
theorem mulD_ii (S : List MO) (i j : Int) : mulD S (.int i) (.int j) = if (-(2 ^ 64) < i ∧ i < 2 ^ 64) ∨ (-(2 ^ 64) < j ∧ j < 2 ^ 64) then some (.int (i * j)) else none := (rfl)
theorem mulD_si (S : List MO) (z : Str) (k : Int) : mulD S (.str z) (.int k) = if 0 ≤ k ∧ k ≤ 1000 ∧ z.length ≤ 1000 then some (.str ⟨(List.replicate k.toNat z.cps.toList).flatten.toArray⟩) else none := (rfl)
theorem mulD_li (S : List MO) (xs : List D) (k : Int) : mulD S (.lst xs) (.int k) = if 0 ≤ k ∧ k < 2 ^ 63 ∧ xs.length * k.toNat ≤ sizeLine then some (.lst (List.replicate k.toNat xs).flatten) else none := (rfl)
theorem ixD_si (S : List MO) (z : Str) (i : Int) : ixD S (.str z) (.int i) = (atI z.cps.toList i).map fun c => .str ⟨#[c]⟩ := (rfl)
theorem ixD_tup (S : List MO) (xs : List D) (i : Int) : ixD S (.tup xs) (.int i) = atI xs i := (rfl)
theorem ixD_lst (S : List MO) (xs : List D) (i : Int) : ixD S (.lst xs) (.int i) = atI xs i := (rfl)
theorem ixD_fl (S : List MO) (xs : List D) (i : Int) : ixD S (.fl xs) (.int i) = atI xs i := (rfl)
theorem ixD_ob (S : List MO) (n : Nat) (i : Int) : ixD S (.ob n) (.int i) = (seqOf S (.ob n)).bind fun xs => atI xs i := (rfl)
theorem seqOf_ob {S : List MO} {n : Nat} {xs : List D} (h : S[n]? = some (.ml xs)) : seqOf S (.ob n) = some xs := by simp only [seqOf, h]
theorem storeL_ob {S : List MO} {n j : Nat} {k : Int} {v : D} {xs : List D} (h : S[n]? = some (.ml xs)) (hj : ixN xs.length k = some j) : storeL (.ob n) (.int k) v S = .ok () (S.set n (.ml (xs.set j v))) := by simp only [storeL, h, hj]
theorem intD_i (S : List MO) (i : Int) : intD S [.int i] = some (.int i) := (rfl)
theorem intD_b (S : List MO) (b : Bool) : intD S [.bl b] = some (.int (if b then 1 else 0)) := (rfl)
theorem absD_i (S : List MO) (i : Int) : absD S [.int i] = some (.int (if i < 0 then -i else i)) := (rfl)
theorem max2D_ii (S : List MO) (i j : Int) : max2D S [.int i, .int j] = some (.int (if j > i then j else i)) := (rfl)
theorem min2D_ii (S : List MO) (i j : Int) : min2D S [.int i, .int j] = some (.int (if j < i then j else i)) := (rfl)
theorem slD_s (S : List MO) (z : Str) (lo hi : Option Int) : slD S (.str z) lo hi = some (.str (cutS z lo hi)) := (rfl)
theorem slD_t (S : List MO) (xs : List D) (lo hi : Option Int) : slD S (.tup xs) lo hi = some (.tup (cutL xs lo hi)) := (rfl)
theorem slD_l (S : List MO) (xs : List D) (lo hi : Option Int) : slD S (.lst xs) lo hi = if xs.length ≤ sizeLine then some (.lst (cutL xs lo hi)) else none := (rfl)
theorem intOf_i (i : Int) : intOf (.int i) = pure (some i) := (rfl)
theorem joinD_1 (S : List MO) (a : Str) (y : D) : joinD S (.str a) [y] = (seqOf S y).bind fun ds => (strsOf ds).bind fun ys => if (ys.map (·.length)).sum + ys.length * a.length ≤ 16777216 ∧ (Txt.join a ys).length ≤ sizeLine then some (.str (Txt.join a ys)) else none := (rfl)
theorem upperD_0 (S : List MO) (a : Str) : upperD S (.str a) [] = if a.length ≤ 5592405 ∧ (Txt.upper a).length ≤ sizeLine then some (.str (Txt.upper a)) else none := (rfl)
theorem reprBD_b (S : List MO) (b : Bool) : reprBD S [.bl b] = some (.str (if b then "True" else "False")) := (rfl)
theorem inD_eq (S : List MO) (x y : D) : inD S x y = (inB S x y).map .bl := (rfl)
theorem ninD_eq (S : List MO) (x y : D) : ninD S x y = (inB S x y).map fun b => .bl (!b) := (rfl)
theorem eqD_eq (S : List MO) (x y : D) : eqD S x y = (eqB S x y).map .bl := (rfl)
theorem neD_eq (S : List MO) (x y : D) : neD S x y = (eqB S x y).map fun b => .bl (!b) := (rfl)
theorem inB_sign (S : List MO) (c : Nat) (t : Str) : inB S (.str ⟨#[c]⟩) (.str t) = some (decide (c ∈ t.cps.toList)) := (rfl)
theorem eqB_ss (S : List MO) (a b : Str) : eqB S (.str a) (.str b) = some (decide (a = b)) := (rfl)
theorem eqB_ii (S : List MO) (a b : Int) : eqB S (.int a) (.int b) = some (decide (a = b)) := (rfl)
theorem isD_n (S : List MO) (x : D) : isD S x .non = some (.bl (isNone x)) := (rfl)
theorem isntD_n (S : List MO) (x : D) : isntD S x .non = some (.bl (!isNone x)) := (rfl)
theorem tupleD_t (S : List MO) (xs : List D) : tupleD S [.tup xs] = some (.tup xs) := (rfl)
theorem tupleD_l (S : List MO) (xs : List D) : tupleD S [.lst xs] = if xs.length ≤ sizeLine then some (.tup xs) else none := (rfl)
theorem listD_1 (S : List MO) (x : D) : listD S [x] = (seqOf S x).bind fun xs => if xs.length ≤ sizeLine then some (.lst xs) else none := (rfl)
theorem tyD_str (S : List MO) (z : Str) (T : String) : tyD T S (.str z) = (T == "str") := (rfl)
theorem rng1_i (j : Int) : rng1 [.int j] = if -(2 ^ 62) ≤ j ∧ j < 2 ^ 62 then pure (upD 0 j.toNat) else bad := (rfl)
theorem rng2_i (i j : Int) : rng2 [.int i, .int j] = if -(2 ^ 62) ≤ i ∧ i < 2 ^ 62 ∧ -(2 ^ 62) ≤ j ∧ j < 2 ^ 62 then pure (upD i (j - i).toNat) else bad := (rfl)
theorem forM_nil (g : D → Rho → M Rho) (body : Rho → M Fl) (ρ : Rho) : forM g body [] ρ = pure (.nx ρ) := (rfl)
theorem gSet_eq (i : Nat) (d : D) (ρ : Rho) : gSet i d ρ = pure (ρ.set i (some d)) := (rfl)
theorem bName_eq (i : Nat) (d : D) (ρ : Rho) : bName i d ρ = some (ρ.set i (some d)) := (rfl)
theorem wipeR_nil (ρ : Rho) : wipeR ρ [] = ρ := (rfl)
theorem wipeR_cons (ρ : Rho) (v : Nat) (vs : List Nat) : wipeR ρ (v :: vs) = (wipeR ρ vs).set v none := (rfl)
theorem obind_some {α β : Type} (a : α) (f : α → Option β) : (some a).bind f = f a := (rfl)
theorem obind_none {α β : Type} (f : α → Option β) : (none : Option α).bind f = none := (rfl)
theorem omap_some {α β : Type} (a : α) (f : α → β) : (some a).map f = some (f a) := (rfl)
theorem omap_none {α β : Type} (f : α → β) : (none : Option α).map f = none := (rfl)
theorem kb_NoneType_int : kitB "NoneType" "int" = some false := by decide +kernel
theorem kb_NoneType_bool : kitB "NoneType" "bool" = some false := by decide +kernel
theorem kb_NoneType_str : kitB "NoneType" "str" = some false := by decide +kernel
theorem kb_NoneType_tuple : kitB "NoneType" "tuple" = some false := by decide +kernel
theorem kb_NoneType_list : kitB "NoneType" "list" = some false := by decide +kernel
theorem kb_NoneType_dict : kitB "NoneType" "dict" = some false := by decide +kernel
theorem kb_bool_int : kitB "bool" "int" = some true := by decide +kernel
theorem kb_bool_bool : kitB "bool" "bool" = some true := by decide +kernel
theorem kb_bool_str : kitB "bool" "str" = some false := by decide +kernel
theorem kb_bool_tuple : kitB "bool" "tuple" = some false := by decide +kernel
theorem kb_bool_list : kitB "bool" "list" = some false := by decide +kernel
theorem kb_bool_dict : kitB "bool" "dict" = some false := by decide +kernel
theorem kb_int_int : kitB "int" "int" = some true := by decide +kernel
theorem kb_int_bool : kitB "int" "bool" = some false := by decide +kernel
theorem kb_int_str : kitB "int" "str" = some false := by decide +kernel
theorem kb_int_tuple : kitB "int" "tuple" = some false := by decide +kernel
theorem kb_int_list : kitB "int" "list" = some false := by decide +kernel
theorem kb_int_dict : kitB "int" "dict" = some false := by decide +kernel
theorem kb_str_int : kitB "str" "int" = some false := by decide +kernel
theorem kb_str_bool : kitB "str" "bool" = some false := by decide +kernel
theorem kb_str_str : kitB "str" "str" = some true := by decide +kernel
theorem kb_str_tuple : kitB "str" "tuple" = some false := by decide +kernel
theorem kb_str_list : kitB "str" "list" = some false := by decide +kernel
theorem kb_str_dict : kitB "str" "dict" = some false := by decide +kernel
theorem kb_tuple_int : kitB "tuple" "int" = some false := by decide +kernel
theorem kb_tuple_bool : kitB "tuple" "bool" = some false := by decide +kernel
theorem kb_tuple_str : kitB "tuple" "str" = some false := by decide +kernel
theorem kb_tuple_tuple : kitB "tuple" "tuple" = some true := by decide +kernel
theorem kb_tuple_list : kitB "tuple" "list" = some false := by decide +kernel
theorem kb_tuple_dict : kitB "tuple" "dict" = some false := by decide +kernel
theorem kb_list_int : kitB "list" "int" = some false := by decide +kernel
theorem kb_list_bool : kitB "list" "bool" = some false := by decide +kernel
theorem kb_list_str : kitB "list" "str" = some false := by decide +kernel
theorem kb_list_tuple : kitB "list" "tuple" = some false := by decide +kernel
theorem kb_list_list : kitB "list" "list" = some true := by decide +kernel
theorem kb_list_dict : kitB "list" "dict" = some false := by decide +kernel
theorem kb_dict_int : kitB "dict" "int" = some false := by decide +kernel
theorem kb_dict_bool : kitB "dict" "bool" = some false := by decide +kernel
theorem kb_dict_str : kitB "dict" "str" = some false := by decide +kernel
theorem kb_dict_tuple : kitB "dict" "tuple" = some false := by decide +kernel
theorem kb_dict_list : kitB "dict" "list" = some false := by decide +kernel
theorem kb_dict_dict : kitB "dict" "dict" = some true := by decide +kernel
theorem sz_lit {n : Nat} (h : n ≤ 16777216) : (n ≤ sizeLine) = True := eq_true h
theorem disp1 (mk mv : Rho → M D) (ρ : Rho) : dispM [(mk, mv)] ρ = mk ρ >>= fun k => mv ρ >>= fun v => lift ((keyOf k).map fun k => .dk [k] [v]) := by
  show ((mk ρ >>= fun k => mv ρ >>= fun v => (pure [] : M _) >>= fun ps => pure ((k, v) :: ps)) >>= mkDict) = _
  rw [bind_assoc']
  refine congrArg _ (funext fun k => ?_)
  rw [bind_assoc']
  refine congrArg _ (funext fun v => ?_)
  show mkDict [(k, v)] = _
  unfold mkDict
  rw [if_pos (show [(k, v)].length ≤ 15 from (by decide : 1 ≤ 15))]
  unfold mergeD
  cases keyOf k <;> rfl
theorem keyOf_s (z : Str) : keyOf (.str z) = some (.inr z) := (rfl)
theorem keyOf_i (z : Int) : keyOf (.int z) = some (.inl z) := (rfl)
def wl (w : W3) : MO := .ml [.int w.1, .int w.2.1, .int w.2.2]
def dip (k : Int) : Dr Int := fun w =>
  if w.1 > 0 then (w.1 % k, (w.1 / k, w.2.1, w.2.2))
  else
    let c := w.2.2 + 1
    let one := (w.2.1 + 776531401 * c) % 2305843009213693867
    let two := one * one % 1000000000000037 * one + 7351 * c
    ((two + w.2.1) % 4398046510993 / 32 % k, (w.1, w.2.1, c))
def Dr.bind {α β : Type} (m : Dr α) (f : α → Dr β) : Dr β := fun w => f (m w).1 (m w).2
def Dr.pure {α : Type} (a : α) : Dr α := fun w => (a, w)
def choose {α : Type} [Inhabited α] (xs : List α) : Dr α := fun w => let r := dip (xs.length : Int) w; (xs.getD r.1.toNat default, r.2)
def put (S : List MO) (n : Nat) (w : W3) : List MO := S.set n (wl w)
theorem put_get {S : List MO} {n : Nat} {w : W3} (h : n < S.length) : (put S n w)[n]? = some (wl w) := List.getElem?_set_self h
theorem put_len {S : List MO} {n : Nat} {w : W3} : (put S n w).length = S.length := List.length_set
theorem put_put {S : List MO} {n : Nat} {v w : W3} : put (put S n v) n w = put S n w := List.set_set ..
theorem put_self {S : List MO} {n : Nat} {w : W3} (h : S[n]? = some (wl w)) : put S n w = S := by
  obtain ⟨hn, e⟩ := List.getElem?_eq_some_iff.mp h
  show S.set n (wl w) = S
  rw [← e]
  exact List.set_getElem_self hn
theorem wl_cl (N : Nat) (w : W3) : (wl w).cl N = true := rfl
theorem SCl.put {S : List MO} (h : SCl S) (n : Nat) (w : W3) : SCl (put S n w) := fun m o e => by
  have e : (S.set n (wl w))[m]? = some o := e
  rw [put_len]
  by_cases hm : n = m
  · subst hm
    by_cases hn : n < S.length
    · rw [List.getElem?_set_self hn] at e; cases e; exact wl_cl _ _
    · rw [List.getElem?_eq_none (by simpa using Nat.not_lt.mp hn)] at e; cases e
  · rw [List.getElem?_set_ne hm] at e
    exact h m o e
theorem upD_map (n : Nat) : upD 0 n = (List.range n).map fun i => .int (i : Nat) := by
  unfold upD
  refine List.map_congr_left fun i _ => ?_
  rw [Int.zero_add]
theorem put_seq {S : List MO} {n : Nat} {w : W3} (h : n < S.length) : seqOf (put S n w) (.ob n) = some [.int w.1, .int w.2.1, .int w.2.2] := seqOf_ob (put_get h)
theorem ixw0 {S : List MO} {n : Nat} {w : W3} (h : n < S.length) : ixD (put S n w) (.ob n) (.int 0) = some (.int w.1) := by rw [ixD_ob, put_seq h]; rfl
theorem ixw1 {S : List MO} {n : Nat} {w : W3} (h : n < S.length) : ixD (put S n w) (.ob n) (.int 1) = some (.int w.2.1) := by rw [ixD_ob, put_seq h]; rfl
theorem ixw2 {S : List MO} {n : Nat} {w : W3} (h : n < S.length) : ixD (put S n w) (.ob n) (.int 2) = some (.int w.2.2) := by rw [ixD_ob, put_seq h]; rfl
theorem stw0 {S : List MO} {n : Nat} {w : W3} {v : Int} (h : n < S.length) : storeL (.ob n) (.int 0) (.int v) (put S n w) = .ok () (put S n (v, w.2.1, w.2.2)) := by
  rw [storeL_ob (put_get h) (j := 0) (by rfl)]
  show Res.ok () (put (put S n w) n (v, w.2.1, w.2.2)) = _
  rw [put_put]
theorem stw2 {S : List MO} {n : Nat} {w : W3} {v : Int} (h : n < S.length) : storeL (.ob n) (.int 2) (.int v) (put S n w) = .ok () (put S n (w.1, w.2.1, v)) := by
  rw [storeL_ob (put_get h) (j := 2) (by rfl)]
  show Res.ok () (put (put S n w) n (w.1, w.2.1, v)) = _
  rw [put_put]
theorem atI_get {α : Type} (xs : List α) (i : Nat) (h : i < xs.length) : atI xs (i : Int) = xs[i]? := by
  unfold atI ixN
  rw [if_pos (by omega), if_pos (by omega)]
  rfl
@[irreducible] def P59 : Int := 10 ^ 59
@[irreducible] def P590 : Int := (10 ^ 59) ^ 10
@[irreducible] def P15 : Int := 10 ^ 15
@[irreducible] def P39 : Int := 10 ^ 39
@[irreducible] def P38 : Int := 10 ^ 38
theorem powDW_ok {i j : Int} (S : List MO) (h : decide (0 ≤ j ∧ (Builtin.Int.intBits i : Int) * j ≤ 2 ^ 27) = true) : powDW S (.int i) (.int j) = some (.int (i ^ j.toNat)) := by
  show (if _ = true then _ else _) = _
  rw [if_pos h]
theorem pow59 (S : List MO) : powDW S (.int 10) (.int 59) = some (.int P59) := by unfold P59; exact powDW_ok S (by decide +kernel)
theorem pow15 (S : List MO) : powDW S (.int 10) (.int 15) = some (.int P15) := by unfold P15; exact powDW_ok S (by decide +kernel)
theorem pow39 (S : List MO) : powDW S (.int 10) (.int 39) = some (.int P39) := by unfold P39; exact powDW_ok S (by decide +kernel)
theorem pow38 (S : List MO) : powDW S (.int 10) (.int 38) = some (.int P38) := by unfold P38; exact powDW_ok S (by decide +kernel)
theorem pow590 (S : List MO) : powDW S (.int P59) (.int 10) = some (.int P590) := by unfold P59 P590; exact powDW_ok S (by decide +kernel)
theorem P590_pos : 0 < P590 := by unfold P590; decide +kernel
theorem Dats.ints {K : Frag} {ι : Nat → Addr} {N : Nat} {B : Hp} : ∀ (ns : List Int), Dats K ι N B (ns.map V.int) (ns.map D.int)
  | [] => .nil
  | n :: ns => .cons (.int n) (Dats.ints ns)
theorem noFall {P : Program} (w : World) (H : Hp) (s : Shared) (e : Value) (s' : Shared) (h : L2.CX P w [] H s (fun _ _ _ => False) e s') : False := by
  obtain ⟨a, B, H', cls, d, _, _, _, _, _, _, _, z⟩ := h
  exact z
theorem Pst.wish {K : Frag} {W W' : XK} {α : Type} {w : Wr} {r : Res α} {k : α → Wr → Prop} (i : ∀ c d H, W c d H → W' c d H) (h : Pst K W w r k) : Pst K W' w r k := by
  cases r with
  | ok a S => exact h
  | exc C fs S => exact fun w' dd e x d q => i _ _ _ (h w' dd e x d q)
  | bad => exact h
def insOf (S : List MO) : D → Option (Addr × List Str × List D)
  | .ins C ns ds => some (C, ns, ds)
  | .ob n => match S[n]? with
    | some (.mi C ns ds) => some (C, ns, ds)
    | _ => none
  | _ => none
theorem look_zip {K : Frag} {ι : Nat → Addr} {N : Nat} {B : Hp} : ∀ {ns : List Str} {vs : List V} {ds : List D} {f : Str} {d : D}, Dats K ι N B vs ds → look ns ds f = some d → ∃ v, (ns.zip vs).lookup f = some v ∧ Dat K ι N B v d
  | [], _, _, _, _, _, e => by cases e
  | n :: ns, _, _, f, d, .nil, e => by cases e
  | n :: ns, v :: vs, d :: ds, f, d', .cons h t, e => by
    unfold look at e
    rw [List.zip_cons_cons, List.lookup_cons]
    by_cases z : f = n
    · rw [if_pos z] at e
      cases e
      rw [beq_iff_eq.mpr z]
      exact ⟨v, rfl, h⟩
    · rw [if_neg z] at e
      rw [beq_eq_false_iff_ne.mpr z]
      exact look_zip t e
structure ClsI (K : Frag) (C : Addr) : Prop where
  cl : Cls K C
  ha : PySem.W.findIn K (.ref C) "__class__" = some (some (.builtin "object.__class__"))
  hm : PySem.W.mroIn K C (.type "object") = some true
  un : ∀ T ∈ seven, PySem.W.kitOne K (.type T) (.ref C) = some false
  no : ∀ T ∈ seven, PySem.W.kitOne K (.ref C) (.type T) = some false
  me : PySem.W.kitOne K (.ref C) (.ref C) = some true
structure Kits (K : Frag) (cs : List Addr) : Prop where
  one : ∀ C ∈ cs, ClsI K C
  two : ∀ C ∈ cs, ∀ C' ∈ cs, C ≠ C' → PySem.W.kitOne K (.ref C) (.ref C') = some false
  hn : PySem.W.specialIn K (.builtin "object.__class__") "__get__" = some (some (.builtin "getset_descriptor.__get__"))
  ht : PySem.W.takesIn K (.builtin "object.__class__") = some true
def isiT (cs : List Addr) (S : List MO) (x : D) (T : String) : Option Bool := match insOf S x with
  | some z => if z.1 ∈ cs ∧ T ∈ seven then some false else none
  | none => (tyName S x).bind fun a => kitB a T
def isiR (cs : List Addr) (S : List MO) (x : D) (C : Addr) : Option Bool := match insOf S x with
  | some z => if z.1 ∈ cs ∧ C ∈ cs then some (decide (z.1 = C)) else none
  | none => (tyName S x).bind fun a => if a ∈ seven ∧ C ∈ cs then some false else none
def isiC (cs : List Addr) (S : List MO) : List D → Option D
  | [x, .ty T] => (isiT cs S x T).map .bl
  | [x, .ref C] => (isiR cs S x C).map .bl
  | _ => none
theorem isiC_ty (cs : List Addr) (S : List MO) (x : D) (T : String) : isiC cs S [x, .ty T] = (isiT cs S x T).map .bl := (rfl)
theorem isiC_ref (cs : List Addr) (S : List MO) (x : D) (C : Addr) : isiC cs S [x, .ref C] = (isiR cs S x C).map .bl := (rfl)
section
variable {X : Cx} {W : WX} {pos : Pos} {e : Expr} {es : List Expr} {gs : List D → Rho → M Rho} {ms : Rho → M (List D)}
def gSeq (K : Frag) (n : Nat) (t : TGs) : TG := fun v σ H Q => gTup K n t v σ H Q ∨ gUnl K n t v σ H Q
theorem pg_seq {k : Nat} {t : TGs} {n : Nat} (hc : X.calm = true) (h : PGs X es t) (hn : (assignEach es X.env).length = n := by rfl) (hst : (assignEach es X.env).findIdx? (·.1) = none := by rfl) : PG X (.Tuple es k pos) (gSeq X.K n t) :=
  ⟨fun pins s σ H v u Q I r hw => by
    rcases hw with hw | hw
    · exact (pg_tup hc h hn hst).run pins s σ H v u Q I r hw
    · exact (pg_unl hc h hn hst).run pins s σ H v u Q I r hw⟩
/-- the items of a tuple or of a list that stands still -/
def still : D → Option (List D)
  | .tup xs => some xs
  | .lst xs => some xs
  | .fl xs => some xs
  | _ => none
theorem still_ok {K : Frag} {w : Wr} {v : V} {d : D} {ds : List D} (wd : Wd K w) (h : Dt K w v d) (e : still d = some ds) : ∃ a vs, v = .ref a ∧ (SqT K w.H a vs ∨ SqL K w.H a vs) ∧ Dts K w vs ds := by
  cases d with
  | tup xs => cases e; cases h with | tup q l t => exact ⟨_, _, rfl, .inl (SqT.same wd.fz q), t⟩
  | lst xs => cases e; cases h with | lst q l t => exact ⟨_, _, rfl, .inr (SqL.of (wd.fz _ _ q)), t⟩
  | fl xs => cases e; cases h with | fl q l t => exact ⟨_, _, rfl, .inr (SqL.same wd.fz q), t⟩
  | _ => cases e
def gSeqM (n : Nat) (gs : List D → Rho → M Rho) : D → Rho → M Rho := fun d ρ => lift (still d) >>= fun ds => if ds.length = n then gs ds ρ else bad
theorem pdg_seq {k : Nat} (n : Nat) (hc : X.calm = true) (h : PDGs X W es gs) (hn : (assignEach es X.env).length = n := by rfl) (hst : (assignEach es X.env).findIdx? (·.1) = none := by rfl) : PDG X W (.Tuple es k pos) (gSeqM n gs) :=
  PG.imp (pg_seq hc h hn hst) fun v σ H Q ⟨w, ρ, d, a, hv, h⟩ => by
    obtain ⟨ds, e, h⟩ := Pst.lift h
    by_cases hl : ds.length = n
    · rw [if_pos hl] at h
      obtain ⟨b, vs, rfl, q, t⟩ := still_ok a.2.1 hv e
      rw [a.1] at q
      rcases q with q | q
      · exact .inl ⟨b, vs, rfl, q, by rw [t.length]; exact hl, w, ρ, ds, a, t, h⟩
      · exact .inr ⟨b, vs, rfl, q, by rw [t.length]; exact hl, w, ρ, ds, a, t, h⟩
    · rw [if_neg hl] at h; exact h.elim
def bSeq (n : Nat) (bs : List D → Rho → Option Rho) : D → Rho → Option Rho := fun d ρ => (still d).bind fun ds => if ds.length = n then bs ds ρ else none
end
def intsL : List D → Option (List Int)
  | [] => some []
  | .int i :: ds => (intsL ds).map (i :: ·)
  | _ :: _ => none
theorem intsL_ok {K : Frag} {w : Wr} : ∀ {ds : List D} {vs : List V} {ns : List Int}, Dts K w vs ds → intsL ds = some ns → vs = ns.map V.int
  | [], _, _, .nil, e => by cases e; rfl
  | d :: ds, _, ns, .cons h t, e => by
    cases d with
    | int i =>
      have e : (intsL ds).map (i :: ·) = some ns := e
      rw [Option.map_eq_some_iff] at e
      obtain ⟨ms, e1, rfl⟩ := e
      rw [intsL_ok t e1, h.int_of]
      rfl
    | _ => exact nomatch e
def intsT : D → Option (List Int)
  | .tup xs => intsL xs
  | _ => none
theorem intsT_ok {K : Frag} {w : Wr} (wd : Wd K w) {v : V} {d : D} {ns : List Int} (h : Dt K w v d) (e : intsT d = some ns) : ∃ a, v = .ref a ∧ SqT K w.H a (ns.map V.int) := by
  cases d with
  | tup xs =>
    cases h with
    | tup q l t =>
      have := intsL_ok t e
      subst this
      exact ⟨_, rfl, SqT.same wd.fz q⟩
  | _ => cases e
def ltTD (S : List MO) (x y : D) : Option D := match intsT x, intsT y with
  | some ns, some ms => some (.bl (HT.lexLt ns ms))
  | _, _ => ltD S x y
theorem ltTD_ii (S : List MO) (i j : Int) : ltTD S (.int i) (.int j) = some (.bl (decide (i < j))) := (rfl)
theorem ltTD_ss (S : List MO) (a b : Str) : ltTD S (.str a) (.str b) = some (.bl (decide (a.cps.toList < b.cps.toList))) := (rfl)
theorem o_ltT {X : Cx} (hu : X.A.units < cLine) : OpR X (compareOp .Lt) (opM X.K ltTD) := by
  intro pins s σ H x y v u Q I rx ry ⟨w, dx, dy, d, e, wd, hx, hy, q, k⟩
  unfold ltTD at q
  split at q
  · rename_i ns ms h1 h2
    cases q
    subst e
    obtain ⟨a, rfl, q1⟩ := intsT_ok wd hx h1
    obtain ⟨b, rfl, q2⟩ := intsT_ok wd hy h2
    exact op_ltT hu pins s σ _ _ _ v u Q I rx ry ⟨a, b, ns, ms, rfl, rfl, q1, q2, k w _ rfl (Ex.refl _) wd (.bl _)⟩
  · exact o_lt pins s σ H x y v u Q I rx ry ⟨w, dx, dy, d, e, wd, hx, hy, q, k⟩
def zipD (xs ys : List D) : List D := (xs.zip ys).map fun p => .tup [p.1, p.2]
def enumD (xs : List D) : List D := xs.zipIdx.map fun p => .tup [.int (p.2 : Nat), p.1]
theorem wk_pair {K : Frag} {w : Wr} {J : It} {n : Nat} {G : Hp → Prop} {fx fy : Nat → Option V} {ds : List D} (hn : ds.length = n) (wk : Walk J n G (YPair fx fy)) (hG : ∀ w1, Exw w w1 → Wd K w1 → G w1.H)
    (hd : ∀ i w1 x y, i < n → Exw w w1 → Wd K w1 → fx i = some x → fy i = some y → ∃ d e, ds[i]? = some (.tup [d, e]) ∧ Dt K w1 x d ∧ Dt K w1 y e) : Wk K w J ds := by
  refine ⟨G, _, by rw [hn]; exact wk, hG, fun i w1 v H' hi e1 d1 y => ?_⟩
  rw [hn] at hi
  obtain ⟨T, x, y, rfl, hT, rfl, hx, hy⟩ := y
  obtain ⟨d, e, h1, h2, h3⟩ := hd i w1 x y hi e1 d1 hx hy
  obtain ⟨w2, hS, hH, x2, d2, t2⟩ := new_tup (ds := [d, e]) d1 hT (.cons h2 (.cons h3 .nil)) (by show 2 ≤ sizeLine; decide)
  exact ⟨w2, _, hH, hS, x2, d2, h1, t2⟩
def tupOf : D → Option (List D)
  | .tup xs => some xs
  | _ => none
def lsOf : D → Option (List D)
  | .lst xs => some xs
  | .fl xs => some xs
  | _ => none
theorem tupOf_ok {K : Frag} {w : Wr} {v : V} {d : D} {ds : List D} (h : Dt K w v d) (e : tupOf d = some ds) : ∃ a vs, v = .ref a ∧ SqT K w.B a vs ∧ Dts K w vs ds := by
  cases d with
  | tup xs => cases e; cases h with | tup q l t => exact ⟨_, _, rfl, q, t⟩
  | _ => cases e
theorem lsOf_ok {K : Frag} {w : Wr} {v : V} {d : D} {ds : List D} (h : Dt K w v d) (e : lsOf d = some ds) : ∃ a vs, v = .ref a ∧ SqL K w.B a vs ∧ Dts K w vs ds := by
  cases d with
  | lst xs => cases e; cases h with | lst q l t => exact ⟨_, _, rfl, SqL.of q, t⟩
  | fl xs => cases e; cases h with | fl q l t => exact ⟨_, _, rfl, q, t⟩
  | _ => cases e
def zip2 (x y : D) : Option (List D) := match tupOf x, tupOf y with
  | some xs, some ys => some (zipD xs ys)
  | _, _ => match lsOf x, lsOf y with
    | some xs, some ys => some (zipD xs ys)
    | _, _ => none
def zipI : List D → M (List D)
  | [x, y] => lift (zip2 x y)
  | _ => bad
section
variable {X : Cx} {W : WX} {e : Expr} {n n1 n2 : Rho → M D} {t t1 t2 : Rho → M Bool}
theorem PDE.or (h1 : PDE X W e n1) (h2 : PDE X W e n2) (c : ∀ ρ S, n ρ S = n1 ρ S ∨ n ρ S = n2 ρ S) : PDE X W e n := ⟨fun pins s σ H Q I ⟨w, ρ, a, h⟩ => by
  rcases c ρ w.S with z | z
  · rw [z] at h; exact h1.run pins s σ H Q I ⟨w, ρ, a, h⟩
  · rw [z] at h; exact h2.run pins s σ H Q I ⟨w, ρ, a, h⟩⟩
theorem PDT.or (h1 : PDT X W e t1) (h2 : PDT X W e t2) (c : ∀ ρ S, t ρ S = t1 ρ S ∨ t ρ S = t2 ρ S) : PDT X W e t := ⟨fun pins s σ H Q I ⟨w, ρ, a, h⟩ => by
  rcases c ρ w.S with z | z
  · rw [z] at h; exact h1.run pins s σ H Q I ⟨w, ρ, a, h⟩
  · rw [z] at h; exact h2.run pins s σ H Q I ⟨w, ρ, a, h⟩⟩
theorem bind_or {α β : Type} {m : M α} {f f1 f2 : α → M β} (S : List MO) (c : ∀ a S, f a S = f1 a S ∨ f a S = f2 a S) : (m >>= f) S = (m >>= f1) S ∨ (m >>= f) S = (m >>= f2) S := by
  simp only [bind_app]
  cases m S with
  | ok a S1 => exact c a S1
  | exc C fs S1 => exact .inl rfl
  | bad => exact .inl rfl
theorem do2_or {x y : Rho → M D} {g g1 g2 : List MO → D → D → Option D} (c : ∀ S a b, g S a b = g1 S a b ∨ g S a b = g2 S a b) (ρ : Rho) (S : List MO) : do2 x y g ρ S = do2 x y g1 ρ S ∨ do2 x y g ρ S = do2 x y g2 ρ S :=
  bind_or S fun a S => bind_or S fun b S => by
    rcases c S a b with z | z
    · exact .inl (by show toRes _ S = toRes _ S; rw [z])
    · exact .inr (by show toRes _ S = toRes _ S; rw [z])
end
def dictOf (S : List MO) : D → Option (List Key × List D)
  | .dk ks vs => some (ks, vs)
  | .ob n => match S[n]? with
    | some (.mk ks vs) => some (ks, vs)
    | _ => none
  | _ => none
theorem dictOf_ok {K : Frag} {w : Wr} {v : V} {d : D} {ks : List Key} {ds : List D} (wd : Wd K w) (h : Dt K w v d) (e : dictOf w.S d = some (ks, ds)) : ∃ a vs, v = .ref a ∧ w.H a = some (.dK (ks.zip vs)) ∧ ks.length = vs.length ∧ Dts K w vs ds := by
  cases d with
  | dk ks' ds' =>
    cases e
    cases h with
    | dk q l z t => exact ⟨_, _, rfl, wd.fz _ _ q, l, t⟩
  | ob n =>
    have e : (match w.S[n]? with | some (.mk ks vs) => some (ks, vs) | _ => none) = some (ks, ds) := e
    cases hS : w.S[n]? with
    | none => rw [hS] at e; cases e
    | some o =>
      rw [hS] at e
      cases o with
      | mk ks' ds' =>
        cases e
        obtain ⟨vs, eH, l, t⟩ := wd.ob n _ hS
        cases h
        exact ⟨_, vs, rfl, eH, l, t⟩
      | _ => cases e
  | _ => cases e
def dgetD (S : List MO) (x y : D) : Option D := (dictOf S x).bind fun z => (keyOf y).bind fun k => valD z.1 z.2 k
def dinD (S : List MO) (y x : D) : Option D := (dictOf S x).bind fun z => (keyOf y).map fun k => .bl (valD z.1 z.2 k).isSome
def dninD (S : List MO) (y x : D) : Option D := (dictOf S x).bind fun z => (keyOf y).map fun k => .bl (!(valD z.1 z.2 k).isSome)
section
variable {X : Cx} {W : WX} {o i e : Expr} {mo mi me : Rho → M D} {pos : Pos}
theorem pd_dget (hu : X.A.units + 1 < cLine) (ho : PDE X W o mo) (hi : PDE X W i mi) (hs : NoSl i := by first | exact nosl_of rfl | (intro _ _; rfl)) : PDE X W (.Subscript o i pos) (do2 mo mi dgetD) := PE.imp (pe_dget hu ho hi hs) fun σ H Q ⟨w, ρ, a, h⟩ =>
  tE_bind (f := fun ρ x => mi ρ >>= fun y => opd dgetD x y) a h fun x v w1 e1 a1 hx h1 =>
    tE_bind (f := fun ρ y => opd dgetD x y) a1 h1 fun y u w2 e2 a2 hy h2 => by
      obtain ⟨d, q, k⟩ := Pst.opd h2
      unfold dgetD at q
      rw [Option.bind_eq_some_iff] at q
      obtain ⟨⟨ks, ds⟩, q1, q⟩ := q
      rw [Option.bind_eq_some_iff] at q
      obtain ⟨ky, q2, q⟩ := q
      obtain ⟨b, vs, rfl, eH, l, t⟩ := dictOf_ok a2.2.1 (Dt.ex e2 hx) q1
      have ey := keyOf_ok hy q2
      rcases Dats.val t l (x := ky) with ⟨v1, d1, z1, z2, r⟩ | ⟨z1, z2⟩
      · rw [z2] at q
        cases q
        refine ⟨b, v1, rfl, ?_, k w2 rfl (Ex.refl _) a2.2.1 v1 r⟩
        rw [ey, ← z1]
        exact DGet.k eH
      · rw [z2] at q; cases q
/-- a dict or a sequence -/
def ixDD (S : List MO) (x y : D) : Option D := if (dictOf S x).isSome = true then dgetD S x y else ixD S x y
def inDD (S : List MO) (y x : D) : Option D := if (dictOf S x).isSome = true then dinD S y x else inD S y x
def ninDD (S : List MO) (y x : D) : Option D := if (dictOf S x).isSome = true then dninD S y x else ninD S y x
theorem ixDD_or (S : List MO) (a b : D) : ixDD S a b = dgetD S a b ∨ ixDD S a b = ixD S a b := by unfold ixDD; split; exact .inl rfl; exact .inr rfl
theorem pd_ixx (hu : X.A.units + 1 < cLine) (ho : PDE X W o mo) (hi : PDE X W i mi) (hs : NoSl i := by first | exact nosl_of rfl | (intro _ _; rfl)) (hp : PlainIx i := by exact fun _ _ => rfl) : PDE X W (.Subscript o i pos) (do2 mo mi ixDD) :=
  PDE.or (pd_dget hu ho hi hs) (pd_ix ho hi hp) (do2_or ixDD_or)
def lenDD (S : List MO) : List D → Option D
  | [x] => match dictOf S x with
    | some z => some (.int (z.1.length : Nat))
    | none => (lenOf S x).map fun (n : Nat) => D.int (n : Nat)
  | _ => none
theorem c_lenD : CallR X (.builtin "len") (callM X.K lenDD) := by
  rintro pins s σ H xs us Q I rv ⟨w, ds, d, rfl, wd, t, e, k⟩
  unfold lenDD at e
  split at e
  · rename_i x
    cases hx : dictOf w.S x with
    | some z =>
      obtain ⟨ks, es⟩ := z
      rw [hx] at e
      cases e
      obtain ⟨v, rfl, hv⟩ := Dats.one t
      obtain ⟨a, vs, rfl, eH, l, t2⟩ := dictOf_ok wd hv hx
      refine call_lenD pins s σ _ _ us Q I rv ⟨a, ks.zip vs, rfl, eH, ?_⟩
      rw [List.length_zip, ← l, Nat.min_self]
      exact k w _ rfl (Ex.refl _) wd (.int _)
    | none =>
      rw [hx] at e
      exact c_len pins s σ _ xs us Q I rv ⟨w, [x], d, rfl, wd, t, by rw [lenD_1]; exact e, k⟩
  · cases e
def noE {α : Type} (m : M α) : Prop := ∀ S C fs S', m S ≠ .exc C fs S'
theorem Pst.noE {α : Type} {m : M α} {K : Frag} {E E' : XK} {w : Wr} {k : α → Wr → Prop} (n : PD.noE m) (h : Pst K E w (m w.S) k) : Pst K E' w (m w.S) k := by
  cases e : m w.S with
  | ok a S => rw [e] at h; exact h
  | exc C fs S => exact absurd e (n _ _ _ _)
  | bad => rw [e] at h; exact h
def mtS (K : Frag) (h : D → List D → M D) : V → List V → Hp → VK → Prop := fun x xs H Q => ∃ w d ds, w.H = H ∧ Wd K w ∧ Dt K w x d ∧ Dts K w xs ds ∧ Pst K (fun _ _ _ => False) w (h d ds w.S) (kE K Q)
def methS (T : String) (m : Rho → M D) (ms : Rho → M (List D)) (h : D → List D → M D) : Rho → M D := fun ρ => m ρ >>= fun x => needT T x >>= fun _ => ms ρ >>= fun xs => h x xs
theorem pd_bmS {es : List Expr} {m : Rho → M D} {ms : Rho → M (List D)} {name : Str} {apos cpos : Pos} {T id : String} {h : D → List D → M D} (n : ∀ x ds, noE (h x ds)) (pa : PlainAttrs T) (slot : Slot T name id) (hty : typeOf (.builtin id) = pure (.type "method_descriptor"))
    (hm : MtR X id (mtS X.K h)) (ho : PDE X W o m) (ha : PDA X W (e :: es) ms) (hbase : attributeBase o name X.env (eval o X.env) = eval o X.env := by rfl)
    (hfew : ((backTo cpos (starEach (e :: es) X.env)).all (fun x => !x.1) && (backToKw cpos (keywordEach [] X.env)).all (fun x => x.1.isSome) && decide ((e :: es).length + ([] : List Keyword).length + (if ([] : List Keyword).isEmpty then 0 else 1) < 30)) = true := by rfl)
    (hline : (apos.endLine == cpos.line) = true := by rfl) (hs : starEach (e :: es) X.env = (false, eval e X.env) :: starEach es X.env := by rfl) (hpl : (backTo cpos (starEach es X.env)).any (·.1) = false := by rfl) :
    PDE X W (.Call (.Attribute o name apos) (e :: es) [] cpos) (methS T m ms h) := PE.imp (pe_bm pa slot hty hm ho ha hbase hfew hline hs hpl) fun σ H Q ⟨w, ρ, a, q⟩ =>
  tE_bind (f := fun ρ x => needT T x >>= fun _ => ms ρ >>= fun xs => h x xs) a q fun d v w1 e1 a1 hv h1 => by
    obtain ⟨c, h2⟩ := Pst.needT (Pst.bind h1)
    have h3 := h2 w1 rfl (Ex.refl _) a1.2.1
    exact ⟨tyD_ok a1.2.1 hv c, tA_bind (f := fun ρ xs => h d xs) a1 h3 fun ds vs w2 e2 a2 hvs h4 => ⟨w2, d, ds, rfl, a2.2.1, Dt.ex e2 hv, hvs, Pst.noE (n d ds) h4⟩⟩
end
set_option maxHeartbeats 2000000
theorem tuple_mulS (l : Addr) (items : Array Value) (n : Nat) (dd : Option Addr) (sl : Array (Option Value)) (x : Int) (u : Tok) (c0 : (decide (x < -(2 ^ 63)) || decide (x ≥ 2 ^ 63)) = false) (c1 : (items.isEmpty || x == 1) = true) :
    Meets (Builtin.«tuple.__mul__» ⟨[.ref l, .int x u], []⟩) (fun _ R s => s.heap.get? l = some { cls := .type "tuple", dict := dd, data := .seq items n, slots := sl } ∧
      R (.ok (.ret (Value.ref l))) s) :=
  .of_wp fun prog w A R s h => by
    obtain ⟨hp, g, d, tk, os⟩ := s
    obtain ⟨hl, h⟩ := h
    have f1 := AutoSeq1.idx_int
    wp_walk using wpAny_loadPart' hl
    repeat (first
      | (refine wpAny_ite_false (decide_eq_false (by rw [c0]; exact Bool.false_ne_true)) ?_; wp_walk using wpAny_loadPart' hl)
      | (refine wpAny_ite_true (decide_eq_true (by rw [c1])) ?_; wp_walk using wpAny_loadPart' hl))
    exact ⟨_, rfl, h⟩
theorem tuple_mul0 (l : Addr) (items : Array Value) (n : Nat) (dd : Option Addr) (sl : Array (Option Value)) (x : Int) (u : Tok) (c0 : (decide (x < -(2 ^ 63)) || decide (x ≥ 2 ^ 63)) = false) (c1 : (items.isEmpty || x == 1) = false) (c2 : (decide (x ≤ 0) || items.isEmpty) = true) :
    Meets (Builtin.«tuple.__mul__» ⟨[.ref l, .int x u], []⟩) (fun _ R s => s.heap.get? l = some { cls := .type "tuple", dict := dd, data := .seq items n, slots := sl } ∧
      R (.ok (.ret (Value.ref s.heap.objs.size))) { s with heap := s.heap.push { cls := Value.type "tuple", data := Data.seq #[] }, toks := s.toks }) :=
  .of_wp fun prog w A R s h => by
    obtain ⟨hp, g, d, tk, os⟩ := s
    obtain ⟨hl, h⟩ := h
    have f1 := AutoSeq1.idx_int
    wp_walk using wpAny_loadPart' hl
    repeat (first
      | (refine wpAny_ite_false (decide_eq_false (by rw [c0]; exact Bool.false_ne_true)) ?_; wp_walk using wpAny_loadPart' hl)
      | (refine wpAny_ite_false (decide_eq_false (by rw [c1]; exact Bool.false_ne_true)) ?_; wp_walk using wpAny_loadPart' hl)
      | (refine wpAny_ite_true (decide_eq_true (by rw [c2])) ?_; wp_walk using wpAny_loadPart' hl))
    exact ⟨_, rfl, h⟩
/-- k copies, k from 0 on -/
def rMulT (K : Frag) : R2 := fun x y H Q => ∃ l k xs, x = .ref l ∧ y = .int k ∧ SqT K H l xs ∧ 0 ≤ k ∧ k ≤ 1000 ∧ xs.length ≤ 1000 ∧ ((xs = [] ∨ k = 1) → Q (.ref l) H) ∧ (¬ (xs = [] ∨ k = 1) → ∀ p, H p = none → Q (.ref p) (upd H p (.tup (List.replicate k.toNat xs).flatten)))
theorem op_mulT {X : Cx} : OpR X (binaryOp .Mult) (rMulT X.K) := by
  intro pins s σ H x y v u Q I rx ry h
  obtain ⟨l, k, xs, rfl, rfl, hT, h1, h2, hz, q1, q2⟩ := h
  have rx' := rx
  have ry' := ry
  cases rx
  obtain ⟨t, rfl⟩ := ry
  obtain ⟨its, r, ⟨⟨cls, dd, data, sl⟩, ho, hc, n, hd⟩, hs⟩ := I.tuple hT
  simp only at hc hd
  subst hc hd
  have hle : its.length = xs.length := r.length.symm
  have c0 : (decide (k < -(2 ^ 63)) || decide (k ≥ 2 ^ 63)) = false := by
    rw [decide_eq_false (by omega), decide_eq_false (by omega)] <;> rfl
  have emp : its.toArray.isEmpty = true ↔ xs = [] := by
    cases its with
    | nil => simp at hle; simp [List.eq_nil_of_length_eq_zero hle.symm]
    | cons a b =>
      constructor
      · intro z; simp at z
      · intro z; rw [z] at hle; simp at hle
  by_cases hcase : xs = [] ∨ k = 1
  · have c1 : (its.toArray.isEmpty || k == 1) = true := by
      rcases hcase with z | z
      · rw [emp.mpr z]; rfl
      · rw [z]; simp
    refine wpAny_binaryOp_repeat_ref (T := "tuple") (U := "int") (by decide) ⟨_, ho, rfl⟩ (fun s' => typeIs_int s' k t) noFill_tuple_mul F.fills_int_mul F.slot_int_rmul repeat_tuple F.slot_int_index.lookup
      (call_meets F.slot_int_rmul (typeIs_int s k t) F.entry_int_rmul (F.args_int_rmul_2 _ _) (int_rmul_tuple k t l its.toArray n dd sl)
        ⟨ho, rfl, ⟨_, ho, rfl⟩, call_meets F.slot_tuple_mul ⟨_, ho, rfl⟩ F.entry_tuple_mul (F.args_tuple_mul_2 _ _) (tuple_mulS l its.toArray n dd sl k t c0 c1) ⟨ho, ?_⟩⟩)
    exact ⟨.ref l, H, I, rfl, q1 hcase⟩
  · by_cases hk : 2 ≤ k
    · exact op_repT pins s σ H _ _ _ _ Q I rx' ry' ⟨l, k, xs, rfl, rfl, hT, fun z => hcase (.inl z), hk, h2, hz, q2 hcase⟩
    · have k0 : k = 0 := by
        have : k ≠ 1 := fun z => hcase (.inr z)
        omega
      subst k0
      have ne : its.toArray.isEmpty = false := by
        cases z : its.toArray.isEmpty with
        | false => rfl
        | true => exact absurd (.inl (emp.mp z)) hcase
      have c1 : (its.toArray.isEmpty || (0 : Int) == 1) = false := by rw [ne]; rfl
      have c2 : (decide ((0 : Int) ≤ 0) || its.toArray.isEmpty) = true := by rw [decide_eq_true (by omega)]; rfl
      refine wpAny_binaryOp_repeat_ref (T := "tuple") (U := "int") (by decide) ⟨_, ho, rfl⟩ (fun s' => typeIs_int s' 0 t) noFill_tuple_mul F.fills_int_mul F.slot_int_rmul repeat_tuple F.slot_int_index.lookup
        (call_meets F.slot_int_rmul (typeIs_int s 0 t) F.entry_int_rmul (F.args_int_rmul_2 _ _) (int_rmul_tuple 0 t l its.toArray n dd sl)
          ⟨ho, rfl, ⟨_, ho, rfl⟩, call_meets F.slot_tuple_mul ⟨_, ho, rfl⟩ F.entry_tuple_mul (F.args_tuple_mul_2 _ _) (tuple_mul0 l its.toArray n dd sl 0 t c0 c1 c2) ⟨ho, ?_⟩⟩)
      refine ⟨.ref s.heap.objs.size, _, I.laid (t' := s.toks) (o := .tup []) (fun b ob q => Heap.get?_push_of_some _ q) (Nat.le_refl _) ?_, rfl, q2 hcase _ (I.hok.fresh (Nat.le_refl _))⟩
      exact ⟨Nat.zero_le _, [], .nil, IsTup.new _ _⟩
def mulTD (S : List MO) (x y : D) : Option D := match tupOf x with
  | some xs => match y with
    | .int k => if 0 ≤ k ∧ k ≤ 1000 ∧ xs.length ≤ 1000 then some (.tup (List.replicate k.toNat xs).flatten) else none
    | _ => none
  | none => mulD S x y
theorem mulTD_t (S : List MO) (xs : List D) (k : Int) : mulTD S (.tup xs) (.int k) = if 0 ≤ k ∧ k ≤ 1000 ∧ xs.length ≤ 1000 then some (.tup (List.replicate k.toNat xs).flatten) else none := (rfl)
theorem mulTD_ii (S : List MO) (i j : Int) : mulTD S (.int i) (.int j) = mulD S (.int i) (.int j) := (rfl)
theorem flat_one {α : Type} (xs : List α) : (List.replicate 1 xs).flatten = xs := by simp
theorem flat_rep_len {α : Type} (k : Nat) (xs : List α) : (List.replicate k xs).flatten.length = k * xs.length := by simp
theorem o_mulT {X : Cx} : OpR X (binaryOp .Mult) (opM X.K mulTD) := by
  intro pins s σ H x y v u Q I rx ry ⟨w, dx, dy, d, e, wd, hx, hy, q, k⟩
  unfold mulTD at q
  cases ht : tupOf dx with
  | none =>
    rw [ht] at q
    exact o_mul pins s σ H x y v u Q I rx ry ⟨w, dx, dy, d, e, wd, hx, hy, q, k⟩
  | some xs =>
    rw [ht] at q
    subst e
    obtain ⟨a, vs, rfl, qa, t⟩ := tupOf_ok hx ht
    cases dy with
    | int j =>
      have q : (if 0 ≤ j ∧ j ≤ 1000 ∧ xs.length ≤ 1000 then some (D.tup (List.replicate j.toNat xs).flatten) else none) = some d := q
      by_cases hc : 0 ≤ j ∧ j ≤ 1000 ∧ xs.length ≤ 1000
      · rw [if_pos hc] at q
        cases q
        have hl := t.length
        have hlen : (List.replicate j.toNat xs).flatten.length ≤ sizeLine := by
          rw [flat_rep_len, sizeLine_eq]
          have a1 : j.toNat * xs.length ≤ 1000 * 1000 := Nat.mul_le_mul (by omega) hc.2.2
          omega
        refine op_mulT pins s σ _ _ _ _ _ Q I rx ry ⟨a, j, vs, rfl, hy.int_of, SqT.same wd.fz qa, hc.1, hc.2.1, by omega, fun h1 => ?_, fun h1 p hp => ?_⟩
        · have e : (List.replicate j.toNat xs).flatten = xs := by
            rcases h1 with z | z
            · subst z
              have : xs = [] := List.eq_nil_of_length_eq_zero (by simpa using hl.symm)
              subst this
              simp
            · subst z; exact flat_one xs
          rw [e] at k hlen
          exact k w _ rfl (Ex.refl _) wd (.tup qa hlen t)
        · obtain ⟨w2, hS, hH, x2, d2, t2⟩ := new_tup wd hp (Dats.rep t j.toNat) hlen
          have := k w2 _ hS x2 d2 t2
          rw [hH] at this
          exact this
      · rw [if_neg hc] at q; cases q
    | _ => cases q
def mlOf (S : List MO) : D → Option (Nat × List D)
  | .ob n => match S[n]? with
    | some (.ml xs) => some (n, xs)
    | _ => none
  | _ => none
theorem mlOf_ob {S : List MO} {n : Nat} {xs : List D} (h : S[n]? = some (.ml xs)) : mlOf S (.ob n) = some (n, xs) := by simp only [mlOf, h]
theorem mlOf_ok {S : List MO} {d : D} {n : Nat} {xs : List D} (e : mlOf S d = some (n, xs)) : d = .ob n ∧ S[n]? = some (.ml xs) := by
  cases d with
  | ob m =>
    have e : (match S[m]? with | some (.ml xs) => some (m, xs) | _ => none) = some (n, xs) := e
    cases hS : S[m]? with
    | none => rw [hS] at e; cases e
    | some o =>
      rw [hS] at e
      cases o with
      | ml ys => cases e; exact ⟨rfl, hS⟩
      | _ => cases e
  | _ => cases e
def appendM (x : D) (ys : List D) : M D := fun S => match mlOf S x with
  | some z => match ys with
    | [y] => if z.2.length < sizeLine then .ok .non (S.set z.1 (.ml (z.2 ++ [y]))) else .bad
    | _ => .bad
  | none => .bad
theorem appendM_1 {S : List MO} {n : Nat} {xs : List D} {y : D} (h : S[n]? = some (.ml xs)) (hl : xs.length < sizeLine) : appendM (.ob n) [y] S = .ok .non (S.set n (.ml (xs ++ [y]))) := by
  unfold appendM
  rw [mlOf_ob h]
  exact if_pos hl
theorem appendM_noE (x : D) (ys : List D) : noE (appendM x ys) := fun S C fs S' h => by
  unfold appendM at h
  split at h
  · split at h
    · split at h
      · cases h
      · cases h
    · cases h
  · cases h
theorem m_append {X : Cx} : MtR X "list.append" (mtS X.K appendM) := fun pins s σ H x xs v us Q I rx rv ⟨w, d, ds, e, wd, hx, hxs, h⟩ => by
  subst e
  unfold appendM at h
  cases hm : mlOf w.S d with
  | none => rw [hm] at h; exact h.elim
  | some z =>
    obtain ⟨n, ys⟩ := z
    rw [hm] at h
    obtain ⟨rfl, hS⟩ := mlOf_ok hm
    match ds, hxs, h with
    | [], _, h => exact h.elim
    | _ :: _ :: _, _, h => exact h.elim
    | [y], hxs, h =>
      obtain ⟨u, rfl, hu⟩ := Dats.one hxs
      obtain ⟨vs, eH, t⟩ := wd.ob n _ hS
      cases hx
      have h : Pst X.K _ w (if ys.length < sizeLine then Res.ok D.non (w.S.set n (.ml (ys ++ [y]))) else .bad) (kE X.K Q) := h
      by_cases hl : ys.length < sizeLine
      · rw [if_pos hl] at h
        refine mt_append pins s σ _ _ _ v us Q I rx rv ⟨_, vs, u, rfl, rfl, eH, by rw [t.length]; exact hl, ?_⟩
        obtain ⟨w2, hS2, hH2, x2, d2⟩ := put_ml wd hS (Dats.append t (.cons hu .nil))
        have := h w2 hS2 x2 d2 _ .non
        rw [hH2] at this
        exact this
      · rw [if_neg hl] at h; exact h.elim
def isIntD : D → Option Int
  | .int i => some i
  | _ => none
def findS (z : Str) : List Str → Option Nat
  | [] => none
  | y :: ys => if y = z then some 0 else (findS z ys).map (· + 1)
def idxTD (S : List MO) (x : D) (xs : List D) : Option D := (tupOf x).bind fun ds => (strsOf ds).bind fun ys => match xs with
  | [.str z] => (findS z ys).map fun (j : Nat) => D.int (j : Nat)
  | _ => none
theorem idxTD_1 (S : List MO) (ds : List D) (z : Str) : idxTD S (.tup ds) [.str z] = (strsOf ds).bind fun ys => (findS z ys).map fun (j : Nat) => D.int (j : Nat) := (rfl)
def compC (F : D → M (List D)) : List D → M (List D)
  | [] => pure []
  | d :: ds => noX (F d) >>= fun rs => compC F ds >>= fun qs => pure (rs ++ qs)
def lc2F (ρ0 : Rho) (b : D → Rho → Option Rho) (t : Rho → M Bool) (vs1 : List Nat) (it1 : Rho → M (List D)) (b1 : D → Rho → Option Rho) (t1 : Rho → M Bool) (m : Rho → M D) (d : D) : M (List D) :=
  lift (b d ρ0) >>= fun ρ' => t ρ' >>= fun k => if k = true then it1 ρ' >>= fun es => compM (oneM b1 t1 m (wipeR ρ' vs1)) es else pure []
def lc2M (vs vs1 : List Nat) (it : Rho → M (List D)) (b : D → Rho → Option Rho) (t : Rho → M Bool) (it1 : Rho → M (List D)) (b1 : D → Rho → Option Rho) (t1 : Rho → M Bool) (m : Rho → M D) : Rho → M D :=
  fun ρ => it ρ >>= fun ds => compC (lc2F (wipeR ρ vs) b t vs1 it1 b1 t1 m) ds >>= mkL
theorem Lo.exw {K : Frag} {w w' : Wr} {σ : L2.St} {ρ : Rho} (l : Lo K w σ ρ) (e : Exw w w') : Lo K w' σ ρ :=
  ⟨l.len, fun i d h => let ⟨v, a, b⟩ := l.sl i d h; ⟨v, a, Dt.exw e b⟩⟩
section
variable {X : Cx} {W : WX} {K : Frag} {tg iter tg1 iter1 elt : Expr} {ifs ifs1 : List Expr} {scope : Scope} {own : List (Str × Nat)} {vs1 : List Nat} {it it1 : Rho → M (List D)} {G G1 : TG} {b b1 : D → Rho → Option Rho} {t t1 : Rho → M Bool} {m : Rho → M D} {pos : Pos}
def compP (f : D → M (Option (Key × D))) : List D → M (List (Key × D))
  | [] => pure []
  | d :: ds => noX (f d) >>= fun o => compP f ds >>= fun rs => pure (o.toList ++ rs)
def foldP : List (Key × D) → List Key → List D → List Key × List D
  | [], ks, vs => (ks, vs)
  | p :: ps, ks, vs => foldP ps (putD ks vs p.1 p.2).1 (putD ks vs p.1 p.2).2
def mkDk (ks : List Key) (vs : List D) (ps : List (Key × D)) : M D := if ks.length + ps.length ≤ sizeLine ∧ vs.length + ps.length ≤ sizeLine then pure (.dk (foldP ps ks vs).1 (foldP ps ks vs).2) else bad
def onePM (b : D → Rho → Option Rho) (t : Rho → M Bool) (mk mv : Rho → M D) (ρ : Rho) (d : D) : M (Option (Key × D)) := lift (b d ρ) >>= fun ρ' => t ρ' >>= fun k => if k = true then mk ρ' >>= fun x => mv ρ' >>= fun r => lift (keyOf x) >>= fun x => pure (some (x, r)) else pure none
def dcM (vs : List Nat) (it : Rho → M (List D)) (b : D → Rho → Option Rho) (t : Rho → M Bool) (mk mv : Rho → M D) : Rho → M D := fun ρ => it ρ >>= fun ds => compP (onePM b t mk mv (wipeR ρ vs)) ds >>= mkDk [] []
variable {kx vx : Expr} {mk mv : Rho → M D}
end
structure PCases (X : Cx) (cases : List MatchCase) (t : Addr → List V → TS) : Prop where
  run : ∀ (first : Bool) (pins : List (Addr × Obj)) (s : Shared) (σ : L2.St) (H : Hp) (Dn : Ends) (a : Addr) (xs : List V), Inv X pins σ H s → SqT X.K H a xs → t a xs Dn σ H →
    wpAny (model X.prog X.w) X.A (matchCases cases X.env (.ref a) first) (SP X pins Dn) X.xe s
def setsD (ρ : Rho) : List Nat → List D → Rho
  | i :: is, d :: ds => setsD (ρ.set i (some d)) is ds
  | _, _ => ρ
def tagEq (d : D) (tag : Str) : M Bool := opd eqD d (.str tag) >>= isB
def caseS (tag : Str) (is : List Nat) (mb : Rho → M Fl) (rest : List D → Rho → M Fl) : List D → Rho → M Fl := fun ds ρ => if ds.length = is.length + 1 then tagEq (ds.getD 0 .non) tag >>= fun k => if k = true then mb (setsD ρ is ds.tail) else rest ds ρ else rest ds ρ
def noCase : List D → Rho → M Fl := fun _ ρ => pure (.nx ρ)
def matchS (m : Rho → M D) (cs : List D → Rho → M Fl) : Rho → M Fl := fun ρ => m ρ >>= fun d => lift (tupOf d) >>= fun ds => cs ds ρ
theorem PCases.imp {X : Cx} {cases : List MatchCase} {t t' : Addr → List V → TS} (h : PCases X cases t) (i : ∀ a xs Dn σ H, t' a xs Dn σ H → t a xs Dn σ H) : PCases X cases t' := ⟨fun first pins s σ H Dn a xs I hT q => h.run first pins s σ H Dn a xs I hT (i _ _ _ _ _ q)⟩
section
variable {X : Cx} {W : WX} {e : Expr} {m : Rho → M D} {p p2 pos pos2 : Pos}
/-- list(range(e)), tuple(range(e)) -/
def rgD (f : List D → D) (d : D) : Option D := (isIntD d).bind fun n => if 0 ≤ n ∧ n ≤ 16777216 then some (f (upD 0 n.toNat)) else none
theorem rgD_i (f : List D → D) (n : Int) : rgD f (.int n) = if 0 ≤ n ∧ n ≤ 16777216 then some (f (upD 0 n.toNat)) else none := (rfl)
/-- -e -/
def negD (S : List MO) (d : D) : Option D := (isIntD d).map fun i => .int (-i)
theorem negD_i (S : List MO) (i : Int) : negD S (.int i) = some (.int (-i)) := (rfl)
theorem pd_neg (he : PDE X W e m) : PDE X W (.UnaryOp .USub e pos) (fun ρ => m ρ >>= opd1 negD) := PE.imp (pe_un un_neg he) fun σ H Q ⟨w, ρ, a, h⟩ => tE_bind (f := fun _ d => opd1 negD d) a h fun d v w1 e1 a1 hv h1 => by
  obtain ⟨r, q, k⟩ := Pst.opd1 h1
  cases d with
  | int i => cases q; exact ⟨i, hv.int_of, k w1 rfl (Ex.refl _) a1.2.1 _ (.int _)⟩
  | _ => cases q
variable {tg iter kx vx : Expr} {ifs : List Expr} {scope : Scope} {it : Rho → M (List D)} {G : TG} {b : D → Rho → Option Rho} {t : Rho → M Bool} {mk mv : Rho → M D}
structure Cs where
  all : List Addr
  Procedure : Addr := 0
  Program : Addr := 0
  Run : Addr := 0
  Derivation : Addr := 0
  Project : Addr := 0
  Shell : Addr := 0
  InvalidProgram : Addr := 0
  InvalidMode : Addr := 0
  InvalidTable : Addr := 0
  InvalidRun : Addr := 0
  InvalidFact : Addr := 0
  InvalidDerivation : Addr := 0
  InvalidOperation : Addr := 0
  InvalidCommand : Addr := 0
  ParseError : Addr := 0
  UnknownName : Addr := 0
  UnknownSite : Addr := 0
  InvalidNumber : Addr := 0
  NothingToUndo : Addr := 0
  Refused : Addr := 0
  TooMany : Addr := 0
  xs : List Addr := []
  tb : Str → Addr := fun _ => 0
  AnswerError : Addr := 0
end
def nz : D → D
  | .tz xs => .tup xs
  | d => d
theorem nz_tz (xs : List D) : nz (.tz xs) = .tup xs := (rfl)
theorem nz_tup (xs : List D) : nz (.tup xs) = .tup xs := (rfl)
theorem Dat.nz {K : Frag} {ι : Nat → Addr} {N : Nat} {B : Hp} {v : V} {d : D} (h : Dat K ι N B v d) : Dat K ι N B v (PD.nz d) := by
  cases h with
  | tz q z l t => exact .tup (.inl (.inr ⟨_, q⟩)) l t
  | non => exact .non
  | bl b => exact .bl b
  | int i => exact .int i
  | str x h => exact .str x h
  | ty n => exact .ty n
  | ref a => exact .ref a
  | tup q l t => exact .tup q l t
  | lst q l t => exact .lst q l t
  | fl q l t => exact .fl q l t
  | dk q l z t => exact .dk q l z t
  | dt q l z t => exact .dt q l z t
  | ins q l t => exact .ins q l t
  | ob n h => exact .ob n h
  | lam h t => exact .lam h t
  | xo q x y l t => exact .xo q x y l t
section
variable {X : Cx} {W : WX} {e o : Expr} {es : List Expr} {m : Rho → M D} {ms : Rho → M (List D)} {pos : Pos}
def tzOf : D → Option (List D)
  | .tz xs => some xs
  | _ => none
end
theorem Lo.weak {K : Frag} {w : Wr} {σ : L2.St} {ρ : Rho} (l : Lo K w σ ρ) : ∀ vs : List Nat, Lo K w σ (wipeR ρ vs)
  | [] => l
  | v :: vs => by
    have ih := Lo.weak l vs
    refine ⟨by show σ.length = ((wipeR ρ vs).set v none).length; rw [List.length_set]; exact ih.len, fun i d h => ?_⟩
    have h : ((wipeR ρ vs).set v none)[i]? = some (some d) := h
    by_cases hi : v = i
    · subst hi
      by_cases hl : v < (wipeR ρ vs).length
      · rw [List.getElem?_set_self hl] at h; cases h
      · rw [List.getElem?_eq_none (by simpa using Nat.not_lt.mp hl)] at h; cases h
    · rw [List.getElem?_set_ne hi] at h
      exact ih.sl i d h
def wipeFl (vs : List Nat) : Fl → Fl
  | .nx ρ => .nx (wipeR ρ vs)
  | .ct ρ => .ct (wipeR ρ vs)
  | .bk ρ => .bk (wipeR ρ vs)
  | .rt d => .rt d
def wipeS (vs : List Nat) (mb : Rho → M Fl) : Rho → M Fl := fun ρ => mb ρ >>= fun fl => pure (wipeFl vs fl)
theorem pdss_wipe {X : Cx} {W : WX} {body : List Stmt} {mb : Rho → M Fl} (vs : List Nat) (h : PDSs X W body mb) : PDSs X W body (wipeS vs mb) := PSs.imp h fun Dn σ H ⟨w, ρ, a, h⟩ => by
  refine ⟨w, ρ, a, (Pst.bind (m := mb ρ) (f := fun fl => pure (wipeFl vs fl)) h).mono fun fl w1 e1 d1 h1 => ?_⟩
  have h2 := h1 w1 rfl (Ex.refl _) d1
  cases fl with
  | nx ρ' => exact fun σ l => h2 σ (l.weak vs)
  | ct ρ' => exact fun σ l => h2 σ (l.weak vs)
  | bk ρ' => exact fun σ l => h2 σ (l.weak vs)
  | rt d => exact h2
theorem kitB_ok {K : Frag} {C : Addr} (h : kitBq K C = true) : ClsI K C := by
  unfold kitBq at h
  simp only [Bool.and_eq_true, decide_eq_true_eq, List.all_eq_true] at h
  obtain ⟨h1, h2, h3, h4, h5, h6, h7, h8, h9⟩ := h
  exact ⟨⟨h1, h2, h3, He.eqO_ok h4⟩, He.eqO_ok h5, h6, h7, h8, h9⟩
theorem kitsB_ok {K : Frag} {cs : List Addr} (h : kitsB K cs = true) : Kits K cs := by
  unfold kitsB at h
  simp only [Bool.and_eq_true, decide_eq_true_eq, List.all_eq_true, Bool.or_eq_true] at h
  obtain ⟨h1, h2, h3, h4⟩ := h
  exact ⟨fun C hC => kitB_ok (h1 C hC), fun C hC D hD ne => (h2 C hC D hD).resolve_left ne, He.eqO_ok h3, h4⟩
section
variable {B : Frag → Bool} {fn : List He5.DefA} {K : Frag}
theorem SaysP.fun_ (z : SaysP B fn K) (i : Nat) {d : He5.DefA} {x qual : Str} {st : Stmt} (h : fn[i]? = some d) (e : d = ⟨d.at_, x, qual, defArgs st, defBody st, defScope st, [], []⟩) : ∃ fd, Fun K x qual st (d.at_ K) fd := by
  have h1 : (B K && fn.all fun d => d.ok K) = true := congrArg (fun y : AlP => y.1) z
  rw [Bool.and_eq_true, List.all_eq_true] at h1
  have h2 : fn.map (fun d => He5.fnA K (d.at_ K)) = fn.map He5.DefA.val := congrArg (fun y : AlP => y.2) z
  have h3 := congrArg (fun l => l[i]?) h2
  simp only [List.getElem?_map, h, Option.map_some] at h3
  obtain ⟨fd, F⟩ := He5.DefA.funD (Option.some.inj h3) (h1.2 d (List.mem_of_getElem? h))
  rw [e] at F
  exact ⟨fd, He5.fun_of F⟩
end
theorem nf_VE : NewF "ValueError" "ValueError.__new__" btVE := NewF.of PySem.F.excBase_ValueError
theorem nf_IE : NewF "IndexError" "IndexError.__new__" btIE := NewF.of PySem.F.excBase_IndexError
theorem nf_LE : NewF "LookupError" "LookupError.__new__" btLE := NewF.of PySem.F.excBase_LookupError
theorem nf_AE : NewF "ArithmeticError" "ArithmeticError.__new__" btAE := NewF.of PySem.F.excBase_ArithmeticError
theorem nf_OE : NewF "OverflowError" "OverflowError.__new__" btOE := NewF.of PySem.F.excBase_OverflowError
theorem nf_KE : NewF "LookupError" "LookupError.__new__" kyT := { nf_LE with hasB := by decide +kernel, noA := by decide +kernel, noN := by decide +kernel }
theorem if_VE : IniF "ValueError" "ValueError.__init__" btVE := IniF.of PySem.F.excBase_ValueError PySem.W.kxs_ValueError PySem.F.store_ValueError
theorem if_IE : IniF "IndexError" "IndexError.__init__" btIE := IniF.of PySem.F.excBase_IndexError PySem.W.kxs_IndexError PySem.F.store_IndexError
theorem if_LE : IniF "LookupError" "LookupError.__init__" btLE := IniF.of PySem.F.excBase_LookupError PySem.W.kxs_LookupError PySem.F.store_LookupError
theorem if_AE : IniF "ArithmeticError" "ArithmeticError.__init__" btAE := IniF.of PySem.F.excBase_ArithmeticError PySem.W.kxs_ArithmeticError PySem.F.store_ArithmeticError
theorem if_OE : IniF "OverflowError" "OverflowError.__init__" btOE := IniF.of PySem.F.excBase_OverflowError PySem.W.kxs_OverflowError PySem.F.store_OverflowError
theorem kySt : StoreFacts "KeyError" kyT "object.__setattr__" "object" := { mro := by kernel_rfl, slot := .of (owner := "object") (n := "__setattr__") (by rw [typeLookup_type, builtinLookup_eq_fast]; kernel_rfl) (by decide +kernel) (by decide +kernel) (by decide +kernel) (by first | exact .inl (by decide +kernel) | exact .inr (by decide +kernel)) (by rw [isSubtype_type]; kernel_rfl), entry := PySem.F.entry_object_sa, kind := by decide +kernel, split := by decide +kernel, hasOwner := by decide +kernel, args := fun a b c => by unfold argsOk; kernel_rfl, passes := fun self => by kernel_rfl }
theorem kyX : PySem.W.KxsFacts "KeyError" "KeyError.__init__" := { typ := by show builtinType _ = _; rw [builtinType_eq_fast]; kernel_rfl, nac := by first | kernel_rfl | rfl }
theorem kyIn : Slot "KeyError" "__init__" "KeyError.__init__" := .of (owner := "KeyError") (n := "__init__") (by rw [typeLookup_type, builtinLookup_eq_fast]; kernel_rfl) (by decide +kernel) (by decide +kernel) (by decide +kernel) (by first | exact .inl (by decide +kernel) | exact .inr (by decide +kernel)) (by rw [isSubtype_type]; kernel_rfl)
theorem if_KE : IniF "KeyError" "KeyError.__init__" kyT := ⟨by kernel_rfl, by kernel_rfl, kyIn.plain, entryFor_alias (id' := "BaseException.__init__") (by rw [fastTable_eq_tree]; kernel_rfl) (by first | rfl | decide +kernel) (by decide +kernel) (by rw [fastTable_eq_tree]; kernel_rfl), by decide +kernel, kyX, kySt⟩
section
variable {prog : Program} {w : World} {A : Around} {E : Value → Shared → Prop} {R : Result → Shared → Prop} {h : Heap} {g : Array GenState} {d : Drawn} {t : Nat} {os : OsState}
variable {nm qn : Str} {C N : Addr} {bs bm bt : List Value} {hdct : Bool} {sn : List Str} {sub : List Value} {ab : Bool} {col : Option Bool} {dd : Option Addr} {k0 k1 k2 k3 k5 : Option Value} {B newId i : String}
abbrev xO (C t : Addr) (dd : Option Addr) : Obj := PySem.W.excObj C t dd .none
theorem xn_check (F : NewF B newId bt) (hT : ∀ X : String, bm.contains (.type X) = bt.contains (.type X)) {us : List Value} {Q : Unit → Shared → Prop} (hC : h.get? C = some (excClassObj nm qn C N bs bm hdct sn sub ab col dd k0 k1 k2 k3 k5 newId)) (hq : Q () ⟨h, g, d, t, os⟩) :
    wpAny (model prog w) A (checkBuiltinCall newId ⟨.ref C :: us, []⟩) Q E ⟨h, g, d, t, os⟩ := by
  have hc1 : (Value.ref C :: bm).contains (.type B) = true := by rw [List.contains_cons, hT, F.hasB, Bool.or_true]
  have hc2 := F.noStar
  simp only [checkBuiltinCall, F.knd, F.spl, F.row]
  repeat (first | refine wpAny_loadPart_at hC ?_ | (refine wpAny_isSubtype_exc hC ?_; rw [hc1]) | refine wpAny_staticBase_exc hC ?_ | refine wpAny_madeBy_exc hC ?_ | simp only [bne_self_eq_false, Bool.false_eq_true, if_false] | wp_step)
  exact hq
theorem xn_new (F : NewF B newId bt) (hT : ∀ X : String, bm.contains (.type X) = bt.contains (.type X)) {us : List Value} (hC : h.get? C = some (excClassObj nm qn C N bs bm hdct sn sub ab col dd k0 k1 k2 k3 k5 newId)) (hz : us.length ≤ sizeLine)
    (hq : R (.ok (.ret (.ref (h.objs.size + 1)))) ⟨(h.push (PySem.W.excTup us)).push (xO C h.objs.size none), g, d, t, os⟩) :
    codeAny (model prog w) A (.builtin newId ⟨.ref C :: us, []⟩) R ⟨h, g, d, t, os⟩ := by
  have he := F.ends
  have c1 : (Value.ref C :: bm).contains (.type B) = true := by rw [List.contains_cons, hT, F.hasB, Bool.or_true]
  have c2 : (Value.ref C :: bm).contains (.type "AttributeError") = false := by rw [List.contains_cons, hT, F.noA]; rfl
  have c3 : (Value.ref C :: bm).contains (.type "NameError") = false := by rw [List.contains_cons, hT, F.noN]; rfl
  have hrest := hz
  refine codeAny_builtinAt F.entry ?_
  unfold Builtin.«BaseException.__new__»
  refine _root_.PySem.wpAt_bind (show _root_.PySem.wpAt _ _ _ (stack >>= _) _ _ _ from ?_)
  refine _root_.PySem.wpAt_bind (_root_.PySem.wpAt_stack fun q lower => _root_.PySem.wpAt_of_wpAny ?_)
  wp_walk
  refine _root_.PySem.wpAt_of_wpAny ?_
  rw [F.owner]
  repeat (first | with_reducible refine wpAny_madeHere_exc F.canon hC ?_ | with_reducible refine wpAny_loadPart_at hC ?_ | (with_reducible refine wpAny_isSubtype_exc hC ?_; first | rw [c1] | rw [c2] | rw [c3]) | wp_step)
  show R _ _
  rw [Heap.size_push]
  exact hq
theorem xn_type (F : NewF B newId bt) (hT : ∀ X : String, bm.contains (.type X) = bt.contains (.type X)) {us : List Value} {fI : Addr} {Q : Fin → Shared → Prop} (hC : h.get? C = some (excClassObj nm qn C N bs bm hdct sn sub ab col dd k0 k1 k2 k3 k5 newId))
    (hi : PySem.W.Looks (model prog w) h (typeLookup (.ref C) "__init__") (some (.ref fI))) (hb : ∀ self, PySem.W.Looks (model prog w) h (bindSpecial (.ref fI) self) (.ref fI, [self])) (hz : us.length ≤ sizeLine)
    (hq : codeAny (model prog w) A (.call (.ref fI) ⟨.ref (h.objs.size + 1) :: us, []⟩) (fun r s' => match r with | .ok (.ret v) => v = .none ∧ Q (.done (.ret (.ref (h.objs.size + 1)))) s' | .ok _ => False | .error e => E e s')
      ⟨(h.push (PySem.W.excTup us)).push (xO C h.objs.size none), g, d, t, os⟩) : wpAny (model prog w) A (Builtin.«type.__call__» ⟨.ref C :: us, []⟩) Q E ⟨h, g, d, t, os⟩ := by
  repeat (first | with_reducible refine wpAny_loadPart_at hC ?_ | with_reducible refine wpAny_madeBy_exc hC ?_ | wp_step)
  refine codeAny_call_builtin_code (Code.quiet_builtin _ F.quiet) (xn_check F hT hC (xn_new F hT hC hz ?_))
  show wpAny _ _ _ _ _ _
  have kk : ∀ b o, h.get? b = some o → ((h.push (PySem.W.excTup us)).push (xO C h.objs.size none)).get? b = some o := fun b o e => Heap.get?_push_of_some _ (Heap.get?_push_of_some _ e)
  have hC1 := kk _ _ hC
  have he : ((h.push (PySem.W.excTup us)).push (xO C h.objs.size none)).get? (h.objs.size + 1) = some (xO C h.objs.size none) := by heap_get
  have hcc : (Value.ref C :: bm).contains (.ref C) = true := by simp
  have j1 := hi.keeps kk
  have j2 := (hb (.ref (h.objs.size + 1))).keeps kk
  unfold isInstance
  repeat (first | with_reducible refine wpAny_loadPart_at he ?_ | (with_reducible refine wpAny_isSubtype_exc hC1 ?_; rw [hcc]) | wp_step)
  show wpAny _ _ (typeLookup (.ref C) _) _ _ _
  refine j1.at (wpAny_holding (wpAny_bind (j2.at ?_)))
  refine wpAny_bind (wpAny_call (codeAny_mono hq fun r s1 z => ?_))
  rcases r with e | (v | _ | _ | _) <;> first | exact z | exact z.elim | skip
  obtain ⟨rfl, z⟩ := z
  first | exact wpAny_pure (wpAny_pure z) | (wp_walk; exact z)
theorem xn_call (F : NewF B newId bt) (hT : ∀ X : String, bm.contains (.type X) = bt.contains (.type X)) {us : List Value} {fI : Addr} (hC : h.get? C = some (excClassObj nm qn C N bs bm hdct sn sub ab col dd k0 k1 k2 k3 k5 newId))
    (hi : PySem.W.Looks (model prog w) h (typeLookup (.ref C) "__init__") (some (.ref fI))) (hb : ∀ self, PySem.W.Looks (model prog w) h (bindSpecial (.ref fI) self) (.ref fI, [self])) (hz : us.length ≤ sizeLine)
    (hq : codeAny (model prog w) (A.under (.builtin "type.__call__" ⟨.ref C :: us, []⟩)) (.call (.ref fI) ⟨.ref (h.objs.size + 1) :: us, []⟩) (PySem.W.InitBack (h.objs.size + 1) R) ⟨(h.push (PySem.W.excTup us)).push (xO C h.objs.size none), g, d, t, os⟩) :
    codeAny (model prog w) A (.call (.ref C) ⟨us, []⟩) R ⟨h, g, d, t, os⟩ := by
  have g1 := tc_lookup
  have g2 := tc_bind (.ref C)
  have g3 : (⟨h, g, d, t, os⟩ : Shared).TypeIs (.ref C) "type" := ⟨_, hC, rfl⟩
  refine codeAny_of_tree (show wpAny _ _ (callAny (.ref C) _) _ _ _ from ?_)
  repeat (any_goals (first | assumption | with_reducible refine wpAny_loadPart_at hC ?_ | wp_step))
  refine ⟨rfl, codeAny_call_builtin_at (Code.quiet_builtin _ (by decide +kernel)) entry_typeCall (wpAny_check_type_call_sub hC (xn_type F hT hC hi hb hz (codeAny_mono hq fun r s1 z => ?_)))⟩
  rcases r with e | (v | _ | _ | _) <;> exact z
/-- B.__init__ bound to the object, called: its args are laid anew -/
theorem xn_bound (F : IniF B i bt) {u e t0 : Addr} {us : List Value} {Q : Value → Shared → Prop} (hC : h.get? C = some (excClassObj nm qn C N bs bm hdct sn sub ab col dd k0 k1 k2 k3 k5 newId)) (he : h.get? e = some (xO C t0 none)) (hu : h.get? u = some (PySem.W.kxs_mw i e)) (hz : us.length ≤ sizeLine)
    (hq : ∀ h' t1, (∀ b o, b ≠ e → h.get? b = some o → h'.get? b = some o) → h'.get? e = some (xO C t1 none) → Q .none ⟨h', g, d, t, os⟩) :
    wpAny (model prog w) A (call (.ref u) us) Q E ⟨h, g, d, t, os⟩ := by
  refine wpAny_call (codeAny_of_tree (show wpAny _ A.in1 (callAny (.ref u) ⟨us, []⟩) _ _ _ from ?_))
  simp only [callAny]
  refine wpAny_bind (wpAny_load hu ?_)
  simp only [PySem.W.kxs_mw, show (Value.type "method-wrapper" == Value.type "method" || Value.type "method-wrapper" == Value.type "builtin_function_or_method" || Value.type "method-wrapper" == Value.type "method-wrapper") = true by decide, if_true]
  refine PySem.W.KFB.if_so (by decide) (wpAny_bind ?_)
  have c2 := F.noStar
  simp only [checkBoundCall, F.knd, F.row]
  repeat (first | (with_reducible refine wpAny_loadPart_at he ?_; try dsimp only) | with_reducible refine wpAny_loadPart_at hC ?_ | wp_step)
  refine wpAny_onRaise ?_
  rw [show ∀ (a b : String) (n : Nat), Bind.check ⟨.positional, "*", B, .self, [⟨"args", .varPos, false⟩]⟩ a b n (List.map (fun x => x.fst) ({ pos := Value.ref e :: us } : Args).kw) = pure () from fun a b n => check_star_args _ _ _ _ _ _]
  refine wpAny_pure (wpAny_bind (wpAny_pure (wpAny_pure ?_)))
  refine ⟨plainId_quiet F.plain _, codeAny_builtin F.entry ?_⟩
  exact PySem.W.exc_init_tree (cls := .ref C) (t0 := t0) (dv := none) (c2 := .none) (c3 := .none) (b4 := .bool false) he hz fun h' k e' _ => hq h' _ k e'
/-- self.f = v, the first one -/
theorem xn_store (F : IniF B i bt) {K : Frag} {f : Str} {tk : Tok} {v : Value} {x t0 : Addr} (X : K.In h) (hx : h.get? x = some (xO C t0 none)) (ho : PySem.W.excOver K C bt = true) (hd : PySem.W.hasDictIn K C = true) (hn : PySem.W.takerIn K C f = some none)
    (hq : ∀ h' tk' dx, (∀ b o, b ≠ x → h.get? b = some o → h'.get? b = some o) → h.objs.size ≤ dx → dx ≠ x → h'.get? x = some (xO C t0 (some dx)) → h'.Ns1 dx (fun y => if y = f then some v else none) → R (.ok (.ret .none)) ⟨h', g, d, tk', os⟩) :
    codeAny (model prog w) A (.call (.builtin "object.__setattr__") ⟨[.ref x, .str f tk, v], []⟩) R ⟨h, g, d, t, os⟩ := by
  refine PySem.W.osa_openX (od := none) F.st X ⟨hx, rfl, rfl, trivial⟩ ho hn fun b => ?_
  obtain ⟨cd, hc, hd'⟩ := PySem.W.any_some hd
  have xs : x ≠ h.objs.size := Nat.ne_of_lt (Heap.lt_size hx)
  refine wpAny_bind (wpAny_pure (wpAny_bind (PySem.W.instanceDict_exc hx (PySem.W.looks_clsIn X hc) hd' ?_)))
  show wpAny _ _ (Builtin.ObjectAttr.storeInDict h.objs.size (.str f tk) f v) _ _ _
  have y0 : (h.push (PySem.W.dictOf [] 0)).get? x = some (xO C t0 none) := Heap.get?_push_of_some _ hx
  have y1 : ((h.push (PySem.W.dictOf [] 0)).update x fun o => { o with dict := some h.objs.size }).get? x = some (xO C t0 (some h.objs.size)) := Heap.get?_update_self (f := fun o : Obj => { o with dict := some h.objs.size }) y0 rfl
  refine PySem.PX.store_in_new ⟨_, #[], _, (Heap.get?_update_ne _ _ _ _ xs.symm).trans (Heap.get?_push_at rfl rfl), rfl, fun e he => absurd he (by simp), fun _ => rfl⟩ fun h' tk' hn' hs => ?_
  refine hq h' tk' h.objs.size (fun b o hb e => ?_) (Nat.le_refl _) xs.symm ((hs.2 x xs).trans y1) hn'
  exact (hs.2 b (Nat.ne_of_lt (Heap.lt_size e))).trans ((Heap.get?_update_ne _ _ _ _ hb).trans (Heap.get?_push_of_some _ e))
end
/-- the written __init__ of the class at D -/
structure XDef (P : Program) (K : Frag) (D fI : Addr) (qual : Str) (st : Stmt) : Prop where
  ex : ∃ (oc : Value) (od : Option Addr) (kV doc pm : Value) (an : Option Addr) (ct : Value) (osl : Array (Option Value)) (cda cc : Addr) (ccl : Value) (cdd : Option Addr) (vs : Array Value) (ccs : Array (Option Value)) (tf : Tok) (cl : Value) (cld : Option Addr) (csl : Array (Option Value)),
    K.lookup fI = some ⟨oc, od, .func (PySem.W.ksFn "__init__" qual (defArgs st) (defBody st) (defScope st) .none kV doc pm an (.ref cda) ct cc), osl⟩ ∧ PySem.W.codeIn K (.ref cda) qual = true ∧
    K.lookup cda = some ⟨ccl, cdd, .fields vs, ccs⟩ ∧ vs[2]? = some (.str P.main.file tf) ∧ K.lookup cc = some ⟨cl, cld, .cell (some (.ref D)), csl⟩
  cls : ∃ cd, PySem.W.clsIn K D = some cd
structure XTxt (P : Program) (qual p : Str) (st : Stmt) : Prop where
  head : ∃ ar, ((defArgs st).posonlyargs ++ (defArgs st).args).head? = some ar ∧ ar.arg = "self"
  ks : (defScope st).names.lookup ("super" : Str) = some .globalImplicit
  kc : (defScope st).names.lookup ("__class__" : Str) = some .free
  ka : (defScope st).names.lookup ("self" : Str) = some .local
  kp : (defScope st).names.lookup p = some .local
  kind : (defScope st).kind = .function
  co : (defScope st).isCoroutine = false
  gen : (defScope st).isGenerator = false
  noc : ∀ x ∈ (defScope st).names, x.2 ≠ .cell
  bind : ∀ (kV doc pm : Value) (an : Option Addr) (cdv ct : Value) (cc : Addr) (a b : Value), bindArgs (PySem.W.ksFn "__init__" qual (defArgs st) (defBody st) (defScope st) .none kV doc pm an cdv ct cc) ⟨[a, b], []⟩ = pure [(("self" : Str), a), (p, b)]
  top : (P.main.scope.names.lookup ("super" : Str)).isSome = false
  ne : (("self" : Str) == p) = false
  dbg : (p == ("__debug__" : Str)) = false
/-- what super().__init__ of D's text says of an instance of C -/
structure XSup (K : Frag) (C D : Addr) (B i newId : String) (bt : List Value) : Prop where
  ei : PySem.W.excInitIn K C bt newId = true
  sub : PySem.W.mroIn K C (.ref D) = some true
  sup : PySem.W.ks_superIn K C D "__init__" = some (some (.builtin i))
  subB : PySem.W.subIn K (.ref C) (.type B) = some true
  subE : PySem.W.subIn K (.ref C) (.type "BaseException") = some true
  tyC : PySem.W.typeIn K (.ref C) = some (.type "type")
  kC : PySem.W.keepIn K (.ref C) = true
  sf : PySem.W.nsIn K mainGlobals "super" = some none
  op : PySem.W.nsIn K cStatics "thirdparty.any" = some none
/-- the class at C, whose __init__ is that of D -/
structure XCls (K : Frag) (C D fI : Addr) (B i newId : String) (bt : List Value) : Prop extends XSup K C D B i newId bt where
  init : PySem.W.findIn K (.ref C) "__init__" = some (some (.ref fI))
  ty : PySem.W.typeIn K (.ref fI) = some (.type "function")
/-- .. and its field f -/
structure XFld (K : Frag) (C : Addr) (f : Str) (bt : List Value) : Prop where
  sa : PySem.W.findIn K (.ref C) "__setattr__" = some (some (.builtin "object.__setattr__"))
  ov : PySem.W.excOver K C bt = true
  hd : PySem.W.hasDictIn K C = true
  no : PySem.W.takerIn K C f = some none
def Cl1 (p : Str) (p0 p1 p2 p3 p4 : Pos) : Prop := ∀ env : Env, ∃ pl : Sem Bool, eval (.Call (.Attribute (.Call (.Name "super" p0) [] [] p1) "__init__" p2) [.Name p p3] [] p4) env = (do
  let ov ← attributeBase (.Call (.Name "super" p0) [] [] p1) "__init__" env (eval (.Call (.Name "super" p0) [] [] p1) env)
  standAt p2.atName
  let (f, first) ← holding [ov] (getMethod ov "__init__" pl)
  callWith p4 f first (backTo p4 (starEach [.Name p p3] env)) [])
def Body1 (p : Str) (body : List Stmt) : Prop := ∃ p0 p1 p2 p3 p4 p5, body = [.Expr (.Call (.Attribute (.Call (.Name "super" p0) [] [] p1) "__init__" p2) [.Name p p3] [] p4) p5] ∧ Cl1 p p0 p1 p2 p3 p4
def Body2 (p f : Str) (body : List Stmt) : Prop := ∃ p0 p1 p2 p3 p4 p5 q0 q1 q2 q3, body = [.Expr (.Call (.Attribute (.Call (.Name "super" p0) [] [] p1) "__init__" p2) [.Name p p3] [] p4) p5, .Assign [.Attribute (.Name "self" q0) f q1] (.Name p q2) q3] ∧ Cl1 p p0 p1 p2 p3 p4
section
variable {P : Program} {w : World} {A : Around} {R : Result → Shared → Prop} {s : Shared} {K : Frag} {mg : Str → Option Value} {base : Heap} {C D fI e t0 : Addr} {qual p f : Str} {st : Stmt} {B i newId : String} {bt : List Value}
/-- super().__init__(p) in the running __init__ -/
theorem xs_super {Q : Flow → Shared → Prop} {E : Value → Shared → Prop} {body : List Stmt} {cda cc L : Addr} {v : Value} {ccl cl : Value} {cdd cld od : Option Addr} {vs : Array Value} {ccs csl osl : Array (Option Value)} {tf : Tok} {oc : Value} {fd : FuncData} {p0 p1 p2 p3 p4 p5 : Pos}
    (M : Mod K mg base) (bk : ∀ b o, base.get? b = some o → s.heap.get? b = some o) (T : XTxt P qual p st) (Z : XSup K C D B i newId bt) (F : IniF B i bt)
    (hfd : fd.params = defArgs st) (l1 : K.lookup fI = some ⟨oc, od, .func fd, osl⟩) (l2 : K.lookup cda = some ⟨ccl, cdd, .fields vs, ccs⟩) (l3 : vs[2]? = some (.str P.main.file tf)) (l4 : K.lookup cc = some ⟨cl, cld, .cell (some (.ref D)), csl⟩) (l5 : ∃ cd, PySem.W.clsIn K D = some cd)
    (hn : s.heap.Ns L fun y => [(("self" : Str), Value.ref e), (p, v)].reverse.lookup y) (he : s.heap.get? e = some (xO C t0 none)) (hL : L ≠ e) (hcl : Cl1 p p0 p1 p2 p3 p4)
    (hq : ∀ h' t1 tk, (∀ b o, b ≠ e → s.heap.get? b = some o → h'.get? b = some o) → h'.get? e = some (xO C t1 none) → Q .next { s with heap := h', toks := tk }) :
    _root_.PySem.wpAt (model P w) A (.func body (PySem.W.ksEnv qual (defScope st) L fI (.ref cda) cc)) (exec (.Expr (.Call (.Attribute (.Call (.Name "super" p0) [] [] p1) "__init__" p2) [.Name p p3] [] p4) p5) (PySem.W.ksEnv qual (defScope st) L fI (.ref cda) cc)) Q E s := by
  have X : K.In s.heap := M.kin.keeps bk
  obtain ⟨nm, N', qn, bs, bm, hdct, sn, sub, ab, col, dd, k0, k1, k2, k3, k5, hC, hT⟩ := PySem.W.excInit_of X Z.ei
  obtain ⟨mb, hb1, hb2⟩ := M.blt
  obtain ⟨cdD, hD⟩ := l5
  obtain ⟨oD, hD1, hD2⟩ : ∃ oD, s.heap.get? D = some oD ∧ oD.data = .cls cdD := by
    unfold PySem.W.clsIn at hD
    split at hD
    · rename_i c d cd' sl ho
      cases hD
      exact ⟨_, X _ _ ho, rfl⟩
    · cases hD
  have self_ : ([(("self" : Str), Value.ref e), (p, v)].reverse.lookup ("self" : Str)) = some (Value.ref e) := by
    show (([(p, v), (("self" : Str), Value.ref e)] : List (Str × Value)).lookup ("self" : Str)) = _
    simp [List.lookup, T.ne]
  have par_ : ([(("self" : Str), Value.ref e), (p, v)].reverse.lookup p) = some v := by
    show (([(p, v), (("self" : Str), Value.ref e)] : List (Str × Value)).lookup p) = _
    simp [List.lookup]
  have I : PySem.W.InstAt s.heap e (xO C t0 none) C none := ⟨he, rfl, rfl, trivial⟩
  obtain ⟨ar, har, harg⟩ := T.head
  obtain ⟨pl, hcall⟩ := hcl (PySem.W.ksEnv qual (defScope st) L fI (.ref cda) cc)
  refine PySem.ks_wpAt_Expr_any (PySem.ks_wpAt_MethodCall (pl := pl) ?main hcall) ?hi ?hs
  case hi => simp [interactive, T.kind]
  case hs => rfl
  · refine PySem.ks_wpAt_super_base (env := PySem.W.ksEnv qual (defScope st) L fI (.ref cda) cc) T.ks T.kc (by decide) rfl (X _ _ l1) rfl (by rw [hfd]; exact har) rfl (X _ _ l2) rfl l3 (by simp) T.top ?_
    refine PySem.W.ks_loadName_global T.kind T.ks (loadGlobal_builtin (env := PySem.W.ksEnv qual (defScope st) L fI (.ref cda) cc) (M.glob.keeps bk) (PySem.W.mg_none_of M.kin M.glob Z.sf) (hb1.keeps bk) ((hb2 _ (by decide +kernel)).trans (by decide +kernel)) ⟨rfl, ?_⟩)
    refine wpAny_loadName_free T.kind T.kc rfl ⟨_, X _ _ l4, rfl⟩ ?_
    rw [harg]
    refine wpAny_loadName_local T.kind T.ka hn self_ ?_
    obtain ⟨hh, g, d, t, os⟩ := s
    refine PySem.ks_wpAny_isType_cls hD1 hD2 ⟨rfl, ?_⟩
    refine PySem.ks_wpAny_call_super hD1 hD2 he rfl (fun c z => nomatch z) (PySem.W.looks_mroIn X Z.sub) fun h1 eso k1' => ?_
    have X1 : K.In h1 := X.keeps k1'
    have I1 : PySem.W.InstAt h1 e (xO C t0 none) C none := ⟨k1' _ _ he, rfl, rfl, trivial⟩
    have hs := Z.sup
    cases hc : PySem.W.clsIn K C with
    | none => unfold PySem.W.ks_superIn at hs; rw [hc] at hs; cases hs
    | some cd =>
      unfold PySem.W.ks_superIn at hs
      rw [hc] at hs
      refine PySem.W.kxs_getMethod F.kx eso (PySem.W.looks_opaque X1 Z.op) (l₀ := cd.mro) ?_ rfl X1 hs (I1.type.andThen (PySem.W.looks_subIn X1 Z.subB)) (PySem.W.ks_ne X1 I1 hc) (by decide) ?_
      · exact fun A Q E s k q => wpAny_bind ((PySem.W.looks_clsIn X1 hc) A _ E s k (wpAny_pure q))
      · have kk : ∀ b o, hh.get? b = some o → (h1.push (PySem.W.kxs_mw i e)).get? b = some o := fun b o z => Heap.get?_push_of_some _ (k1' b o z)
        have hu : (h1.push (PySem.W.kxs_mw i e)).get? h1.objs.size = some (PySem.W.kxs_mw i e) := Heap.get?_push_size h1 rfl
        refine PySem.W.kxs_callWith (i := i) (x := e) (by rfl) ?_
        refine evalArgs_plain ?_
        refine Calls.spliced_cons (PySem.ESX.ldL (hn.keeps kk) par_ ?_ T.kind T.kp T.dbg) 
        refine Calls.spliced_nil ⟨hu, ?_⟩
        exact xn_bound F (kk _ _ hC) (kk _ _ he) hu (by show 1 ≤ sizeLine; decide) fun h' t1 k' e' => hq h' t1 _ (fun b o hb z => k' b o hb (kk b o z)) e'
theorem pair_self {e : Addr} {v : Value} (T : XTxt P qual p st) : ([(("self" : Str), Value.ref e), (p, v)].reverse.lookup ("self" : Str)) = some (Value.ref e) := by
  show (([(p, v), (("self" : Str), Value.ref e)] : List (Str × Value)).lookup ("self" : Str)) = _
  simp [List.lookup, T.ne]
theorem pair_par {e : Addr} {v : Value} : ([(("self" : Str), Value.ref e), (p, v)].reverse.lookup p) = some v := by
  show (([(p, v), (("self" : Str), Value.ref e)] : List (Str × Value)).lookup p) = _
  simp [List.lookup]
theorem xs_run1 {v : Value} (M : Mod K mg base) (bk : ∀ b o, base.get? b = some o → s.heap.get? b = some o) (DX : XDef P K D fI qual st) (T : XTxt P qual p st) (Z : XSup K C D B i newId bt) (F : IniF B i bt) (hb : Body1 p (defBody st)) (hr : A.depth < recursionLimit)
    (he : s.heap.get? e = some (xO C t0 none)) (hq : ∀ h' t1 tk, (∀ b o, b ≠ e → s.heap.get? b = some o → h'.get? b = some o) → h'.get? e = some (xO C t1 none) → R (.ok (.ret .none)) { s with heap := h', toks := tk }) :
    codeAny (model P w) A (.call (.ref fI) ⟨[.ref e, v], []⟩) R s := by
  obtain ⟨oc, od, kV, doc, pm, an, ct, osl, cda, cc, ccl, cdd, vs, ccs, tf, cl, cld, csl, l1, lc, l2, l3, l4⟩ := DX.ex
  obtain ⟨p0, p1, p2, p3, p4, p5, eb, hcl⟩ := hb
  have X : K.In s.heap := M.kin.keeps bk
  refine ks_codeAny_call_defAt (body := defBody st) (binds := [(("self" : Str), Value.ref e), (p, v)]) hr (X _ _ l1) rfl (M.nolimit.keeps bk) (PySem.W.codeRec_of X lc) rfl (.of_eq (T.bind _ _ _ _ _ _ _ _ _)) T.noc ?_ (fun h1 hn kk => ?_) T.co T.gen T.kind
  · intro y hy
    rcases List.mem_cons.mp hy with rfl | hy
    · exact T.ka
    · rcases List.mem_cons.mp hy with rfl | hy
      · exact T.kp
      · exact nomatch hy
  · have hL : s.heap.objs.size ≠ e := Nat.ne_of_gt (Heap.lt_size he)
    have aux : ∀ {bd : List Stmt}, bd = defBody st → _root_.PySem.wpAt (model P w) (A.deeper (callEnv (PySem.W.ksFn "__init__" qual (defArgs st) (defBody st) (defScope st) .none kV doc pm an (.ref cda) ct cc) s.heap.objs.size fI)) (.func (defBody st) (callEnv (PySem.W.ksFn "__init__" qual (defArgs st) (defBody st) (defScope st) .none kV doc pm an (.ref cda) ct cc) s.heap.objs.size fI)) (execs bd (PySem.W.ksEnv qual (defScope st) s.heap.objs.size fI (.ref cda) cc))
        (fun f s' => R (.ok (.ret (match f with | .ret v => v | _ => .none))) s') (fun e s' => wpAny (model P w) (A.deeper (callEnv (PySem.W.ksFn "__init__" qual (defArgs st) (defBody st) (defScope st) .none kV doc pm an (.ref cda) ct cc) s.heap.objs.size fI)) (leaving (callEnv (PySem.W.ksFn "__init__" qual (defArgs st) (defBody st) (defScope st) .none kV doc pm an (.ref cda) ct cc) s.heap.objs.size fI) e) (fun _ s'' => R (.error e) s'') (fun e' s'' => R (.error e') s'') s')
        { s with heap := h1, toks := s.toks + [(("self" : Str), Value.ref e), (p, v)].length } := fun {bd} z => by
      rw [z, eb]
      refine ks_wpAt_execs_cons ?_
      refine xs_super (t0 := t0) M (fun b o z => kk b o (bk b o z)) T Z F rfl l1 l2 l3 l4 DX.cls hn (kk _ _ he) hL hcl fun h' t1 tk k' e' => ?_
      refine _root_.PySem.wpAt_of_wpAny (wpAny_execs_nil ?_)
      exact hq h' t1 tk (fun b o hb z => k' b o hb (kk b o z)) e'
    exact aux rfl
theorem xs_run2 {v : Value} (M : Mod K mg base) (bk : ∀ b o, base.get? b = some o → s.heap.get? b = some o) (DX : XDef P K D fI qual st) (T : XTxt P qual p st) (Z : XSup K C D B i newId bt) (F : IniF B i bt) (Y : XFld K C f bt) (hb : Body2 p f (defBody st)) (be : base.get? e = none) (hr : A.depth < recursionLimit)
    (he : s.heap.get? e = some (xO C t0 none)) (hq : ∀ h' t1 tk dx, (∀ b o, b ≠ e → s.heap.get? b = some o → h'.get? b = some o) → s.heap.objs.size ≤ dx → dx ≠ e → h'.get? e = some (xO C t1 (some dx)) → h'.Ns1 dx (fun y => if y = f then some v else none) → R (.ok (.ret .none)) { s with heap := h', toks := tk }) :
    codeAny (model P w) A (.call (.ref fI) ⟨[.ref e, v], []⟩) R s := by
  obtain ⟨oc, od, kV, doc, pm, an, ct, osl, cda, cc, ccl, cdd, vs, ccs, tf, cl, cld, csl, l1, lc, l2, l3, l4⟩ := DX.ex
  obtain ⟨p0, p1, p2, p3, p4, p5, q0, q1, q2, q3, eb, hcl⟩ := hb
  have X : K.In s.heap := M.kin.keeps bk
  refine ks_codeAny_call_defAt (body := defBody st) (binds := [(("self" : Str), Value.ref e), (p, v)]) hr (X _ _ l1) rfl (M.nolimit.keeps bk) (PySem.W.codeRec_of X lc) rfl (.of_eq (T.bind _ _ _ _ _ _ _ _ _)) T.noc ?_ (fun h1 hn kk => ?_) T.co T.gen T.kind
  · intro y hy
    rcases List.mem_cons.mp hy with rfl | hy
    · exact T.ka
    · rcases List.mem_cons.mp hy with rfl | hy
      · exact T.kp
      · exact nomatch hy
  · have hL : s.heap.objs.size ≠ e := Nat.ne_of_gt (Heap.lt_size he)
    have aux : ∀ {bd : List Stmt}, bd = defBody st → _root_.PySem.wpAt (model P w) (A.deeper (callEnv (PySem.W.ksFn "__init__" qual (defArgs st) (defBody st) (defScope st) .none kV doc pm an (.ref cda) ct cc) s.heap.objs.size fI)) (.func (defBody st) (callEnv (PySem.W.ksFn "__init__" qual (defArgs st) (defBody st) (defScope st) .none kV doc pm an (.ref cda) ct cc) s.heap.objs.size fI)) (execs bd (PySem.W.ksEnv qual (defScope st) s.heap.objs.size fI (.ref cda) cc))
        (fun f s' => R (.ok (.ret (match f with | .ret v => v | _ => .none))) s') (fun e s' => wpAny (model P w) (A.deeper (callEnv (PySem.W.ksFn "__init__" qual (defArgs st) (defBody st) (defScope st) .none kV doc pm an (.ref cda) ct cc) s.heap.objs.size fI)) (leaving (callEnv (PySem.W.ksFn "__init__" qual (defArgs st) (defBody st) (defScope st) .none kV doc pm an (.ref cda) ct cc) s.heap.objs.size fI) e) (fun _ s'' => R (.error e) s'') (fun e' s'' => R (.error e') s'') s')
        { s with heap := h1, toks := s.toks + [(("self" : Str), Value.ref e), (p, v)].length } := fun {bd} z => by
      rw [z, eb]
      refine ks_wpAt_execs_cons ?_
      refine xs_super (t0 := t0) M (fun b o z => kk b o (bk b o z)) T Z F rfl l1 l2 l3 l4 DX.cls hn (kk _ _ he) hL hcl fun h' t1 tk k' e' => ?_
      have k2 : ∀ b o, b ≠ e → s.heap.get? b = some o → h'.get? b = some o := fun b o hb z => k' b o hb (kk b o z)
      have X' : K.In h' := M.kin.keeps fun b o z => k2 b o (fun y => by rw [y, be] at z; cases z) (bk b o z)
      have hn' : h'.Ns s.heap.objs.size fun y => [(("self" : Str), Value.ref e), (p, v)].reverse.lookup y := by
        obtain ⟨oL, es, ep, ho, r⟩ := hn
        exact ⟨oL, es, ep, k' _ _ hL ho, r⟩
      refine ks_wpAt_execs_cons (ks_wpAt_Assign_Attr ?_)
      refine _root_.PySem.wpAt_of_wpAny (PySem.ESX.ldL hn' pair_par ?_ T.kind T.kp T.dbg)
      refine PySem.ESX.ldL hn' (pair_self T) ?_ T.kind T.ka (by decide)
      refine PySem.W.set_plain (od := none) X' ⟨e', rfl, rfl, trivial⟩ Y.sa ?_
      refine xn_store F X' e' Y.ov Y.hd Y.no fun h2 tk2 dx k3 ds dn e2 n2 => ?_
      refine _root_.PySem.wpAt_of_wpAny (wpAny_execs_nil ?_)
      have sz : s.heap.objs.size ≤ dx := Nat.le_of_lt (Nat.lt_of_lt_of_le (Heap.lt_size (k' _ _ hL hn.choose_spec.choose_spec.choose_spec.1)) ds)
      exact hq h2 t1 tk2 dx (fun b o hb z => k3 b o hb (k2 b o hb z)) sz dn e2 n2
    exact aux rfl
end
section
variable {P : Program} {w : World} {K : Frag} {mg : Str → Option Value} {base : Heap} {CX : CXT} {k : Nat} {f : Addr} {fd : FuncData} {ps : List Str} {sp : Sp}
theorem FnG.run_ {X : Cx} {pins : List (Addr × Obj)} {σ : L2.St} {H : Hp} {s : Shared} {Q : VK} {us : List Value} {vs : List V} {E : L2.St → XK} (F : FnG X.prog X.w X.K X.mg X.base CX k f fd ps sp) (hr : Room k X.A) (hgd : X.A.guards = some []) (hb : Binds X.K fd ps []) (hx : PassesAt CX X σ (E σ)) (I : Inv X pins σ H s) (r : Vals vs us)
    (h : sp vs H Q (E σ)) : wpAny (model X.prog X.w) X.A (call (.ref f) us) (EP X pins σ Q) X.xe s := by
  have el : us.length = ps.length := r.length.symm.trans (F.len _ _ _ _ h)
  have bd := hb s us I.kIn ((congrArg List.length (List.append_nil us)).trans el)
  rw [List.append_nil] at bd
  refine wpAny_call (codeAny_mono (F.run X.A X.stack s H ⟨us, []⟩ us vs Q (E σ) hr hgd I.env0 bd r h) fun r s2 z => ?_)
  rcases r with er | (v | _ | _ | _)
  · exact hx pins H s er s2 I z
  · first | exact I.after z | exact z.elim
  · first | exact I.after z | exact z.elim
  · first | exact I.after z | exact z.elim
  · first | exact I.after z | exact z.elim
theorem fn_ofG {name qual : Str} {params : Arguments} {body : List Stmt} {scope : Scope} {dV kV doc pm cdv ct oc : Value} {an od : Option Addr} {osl : Array (Option Value)} {N : List Str} (lk : K.lookup f = some ⟨oc, od, .func (PySem.W.fnOf name qual params body scope dV kV doc pm an cdv ct), osl⟩) (hcd : PySem.W.codeIn K cdv qual = true) (S : FnScope N ps scope)
    (len : ∀ vs H Q E, sp vs H Q E → vs.length = ps.length) (hbody : ∀ (A : Around) (outer : List Env) (s : Shared) (H : Hp) (vs : List V) (Q : VK) (E : XK), Room k (A.deeper (envOfC qual scope s.heap.objs.size f cdv)) → A.guards = some [] → sp vs H Q E →
      ∃ t, PSs (cxOf CX P w K mg base N qual scope f cdv A outer s H E) body t ∧ t { nx := fun _ H' => Q .non H', rt := Q } (L2.start N vs) H) : FnG P w K mg base CX (k + 1) f (PySem.W.fnOf name qual params body scope dV kV doc pm an cdv ct) ps sp := by
  refine ⟨len, fun A outer s H args us vs Q E hr hgd e0 hb r hsp => ?_⟩
  have bk : ∀ b o, base.get? b = some o → s.heap.get? b = some o := fun b o e => (e0.bs b o e).1
  have KX : K.In s.heap := e0.mod.kin.keeps bk
  have hkd : ∀ y ∈ ps.zip us, scope.names.lookup y.1 = some .local ∨ (scope.names.lookup y.1 = some .cell ∧ ((cellsFrom (s.heap.objs.size + 1) scope.names []).lookup y.1).isSome = true) := fun y hy => (S.par y.1 (List.of_mem_zip (a := y.1) (b := y.2) hy).1).imp id fun q => ⟨q, PySem.W.cellsFrom_some _ _ _ (.inl q)⟩
  refine codeAny_call_function hr.depth (KX _ _ lk) rfl S.co S.gen rfl (PySem.W.codeRec_of KX hcd) (hb _ _ _ _ (wpAny_newFunctionEnv_cells S.kind hkd fun env he s1 x => ?_))
  subst he
  refine ⟨(e0.mod.nolimit.keeps bk).keeps x.toInCall.keep, codeAny_func ?_⟩
  obtain ⟨t, ht, hq⟩ := hbody A outer s H vs Q E (hr.deeper _) hgd hsp
  have J0 := inv_start (CX := CX) (E := E) S hr.hd e0 (len _ _ _ _ hsp) r x
  refine wpAny_mono (ht.run [] s1 (L2.start N vs) H _ J0 hq) (fun fl s2 hs => ?_) fun e s2 hs => hs
  rcases fl with u | _ | _ | _
  · first | (obtain ⟨v, σ', H', J, rv, q⟩ := hs; exact ⟨v, H', J.os, J.bare, J.base, J.hok, rv, q⟩) | (obtain ⟨σ', H', J, q⟩ := hs; exact ⟨.non, H', J.os, J.bare, J.base, J.hok, rfl, q⟩) | (obtain ⟨_, _, _, q⟩ := hs; exact q.elim)
  · first | (obtain ⟨v, σ', H', J, rv, q⟩ := hs; exact ⟨v, H', J.os, J.bare, J.base, J.hok, rv, q⟩) | (obtain ⟨σ', H', J, q⟩ := hs; exact ⟨.non, H', J.os, J.bare, J.base, J.hok, rfl, q⟩) | (obtain ⟨_, _, _, q⟩ := hs; exact q.elim)
  · first | (obtain ⟨v, σ', H', J, rv, q⟩ := hs; exact ⟨v, H', J.os, J.bare, J.base, J.hok, rv, q⟩) | (obtain ⟨σ', H', J, q⟩ := hs; exact ⟨.non, H', J.os, J.bare, J.base, J.hok, rfl, q⟩) | (obtain ⟨_, _, _, q⟩ := hs; exact q.elim)
  · first | (obtain ⟨v, σ', H', J, rv, q⟩ := hs; exact ⟨v, H', J.os, J.bare, J.base, J.hok, rv, q⟩) | (obtain ⟨σ', H', J, q⟩ := hs; exact ⟨.non, H', J.os, J.bare, J.base, J.hok, rfl, q⟩) | (obtain ⟨_, _, _, q⟩ := hs; exact q.elim)
end
section
variable {P : Program} {w : World} {K : Frag} {mg : Str → Option Value} {base : Heap}
theorem spM_body {k n : Nat} {N : List Str} {ps : List Str} {m : Rho → M Fl} {Fm : List D → M D} {X : Cx} {vs : List V} {H : Hp} {Q : VK} {E : XK} (hl : ps.length = n) (hK : X.K = K) (h : spM K n Fm vs H Q E)
    (hF : ∀ (ds : List D) (S : List MO), ds.length = n → D.clAll S.length ds = true → D.fitAll ds = true → SCl S → Le S.length (Fm ds S) ((m (rho0 N.length ds) >>= retF) S)) : tS K (fun c d _ H => E c d H) m { nx := fun _ H' => Q .non H', rt := Q } (L2.start N vs) H := by
  obtain ⟨w1, ds, rfl, d1, t, hl, h⟩ := h
  have h2 := Pst.le h (hF ds w1.S hl t.closed t.fits fun n o e => d1.closed e)
  refine ⟨w1, rho0 N.length ds, ⟨rfl, d1, Lo.start t⟩, ?_⟩
  show Pst K E w1 _ _
  refine (Pst.bind h2).mono fun fl w2 e2 d2 h3 => ?_
  cases fl with
  | rt d => exact h3 w2 rfl (Ex.refl _) d2
  | nx ρ => exact fun σ l => h3 w2 rfl (Ex.refl _) d2 _ .non
  | bk ρ => exact h3.elim
  | ct ρ => exact h3.elim
/-- THE RULE for a def, where no repr is under way; its code object is known -/
theorem def_okG {x qual : Str} {st : Stmt} {f c : Addr} {fd : FuncData} {N ps : List Str} {k : Nat} {m : Rho → M Fl} {Fm : List D → M D} (F : FunC K x qual st f c fd) (S : FnScope N ps (defScope st))
    (hbody : ∀ (A : Around) (outer : List Env) (s : Shared) (H : Hp) (E : XK), Room k (A.deeper (envOfC qual (defScope st) s.heap.objs.size f (.ref c))) → A.guards = some [] → PDSs (cxOf (L2.CX P w) P w K mg base N qual (defScope st) f (.ref c) A outer s H E) (fun c d _ H => E c d H) (defBody st) m)
    (hF : ∀ (ds : List D) (S : List MO), ds.length = ps.length → D.clAll S.length ds = true → D.fitAll ds = true → SCl S → Le S.length (Fm ds S) ((m (rho0 N.length ds) >>= retF) S)) : FnG P w K mg base (L2.CX P w) (k + 1) f fd ps (spM K ps.length Fm) := by
  obtain ⟨oc, od, kV, doc, pm, an, ct, osl, rfl, lk, hc⟩ := F.ex
  refine fn_ofG lk hc S (fun vs H Q E h => ?_) fun A outer s H vs Q E hr hgd h => ⟨_, hbody A outer s H E hr hgd, spM_body (k := k) (X := cxOf (L2.CX P w) P w K mg base N qual (defScope st) f (.ref c) A outer s H E) rfl rfl h hF⟩
  obtain ⟨w, ds, _, _, t, hl, _⟩ := h
  rw [t.length, hl]
end
section
variable {X : Cx} {W : WX} {e : Expr} {es : List Expr} {ms : Rho → M (List D)} {F : List D → M D} {p pos : Pos} {k n : Nat} {f : Addr} {fd : FuncData} {ps : List Str} {x : Str}
theorem pd_callG (G : FnG X.prog X.w X.K X.mg X.base (L2.CX X.prog X.w) k f fd ps (spM X.K n F)) (hr : Room k X.A) (hgd : X.A.guards = some []) (tk : Takes X W) (hg : Gl X x) (hm : X.mg x = some (.ref f)) (hk : PySem.W.keepIn X.K (.ref f) = true) (hb : Binds X.K fd ps [])
    (ha : PDA X W (e :: es) ms) (hdb : (x == ("__debug__" : Str)) = false := by decide) (he : starEach (e :: es) X.env = (false, eval e X.env) :: starEach es X.env := by rfl) (hpl : (backTo pos (starEach es X.env)).any (·.1) = false := by rfl) :
    PDE X W (.Call (.Name x p) (e :: es) [] pos) (fnM n F ms) := by
  have z : PE X (.Call (.Name x p) (e :: es) [] pos) (tCallS (spM X.K n F) (WE W) (tA X.K W ms)) := ⟨fun pins s σ H Q I h => wpAny_Call_Name_kw (ld_glob I hg hm (PySem.W.callWith_K (h₀ := X.base) I.ok.mod.kin hk (thn (ha.run pos pins s σ H _ I h) fun us s1 ⟨vs, H1, I1, r, q⟩ => ⟨I1.kIn, G.run_ hr hgd hb (passAt tk σ) I1 r q⟩) he hpl) hdb)⟩
  refine PE.imp z fun σ H Q ⟨w, ρ, a, h⟩ => tA_bind (f := fun ρ xs => if xs.length = n then F xs else bad) a h fun ds vs w1 e1 a1 hv h1 => ?_
  by_cases hl : ds.length = n
  · rw [if_pos hl] at h1
    exact ⟨w1, ds, rfl, a1.2.1, hv, hl, h1⟩
  · rw [if_neg hl] at h1; exact h1.elim
end
/-- what is known of an exception class x at C that keeps nothing -/
def Exc1 (P : Program) (K : Frag) (mg : Str → Option Value) (x : Str) (C : Addr) : Prop := ∃ (D fI : Addr) (qual p : Str) (st : Stmt) (B Bn i newId : String) (bt : List Value),
  XDef P K D fI qual st ∧ XTxt P qual p st ∧ XCls K C D fI B i newId bt ∧ IniF B i bt ∧ NewF Bn newId bt ∧ Body1 p (defBody st) ∧ mg x = some (.ref C)
/-- .. that keeps what it was made of in its field f -/
def Exc2 (P : Program) (K : Frag) (mg : Str → Option Value) (x : Str) (C : Addr) (f : Str) : Prop := ∃ (D fI : Addr) (qual p : Str) (st : Stmt) (B Bn i newId : String) (bt : List Value),
  XDef P K D fI qual st ∧ XTxt P qual p st ∧ XCls K C D fI B i newId bt ∧ IniF B i bt ∧ NewF Bn newId bt ∧ XFld K C f bt ∧ Body2 p f (defBody st) ∧ mg x = some (.ref C)
section
variable {X : Cx} {x f : Str} {C : Addr} {e : Expr} {ta : TA} {p pos pos' : Pos}
theorem base_new {X : Cx} {pins : List (Addr × Obj)} {σ : L2.St} {H : Hp} {s : Shared} (I : Inv X pins σ H s) {a : Addr} (h : s.heap.objs.size ≤ a) : X.base.get? a = none := by
  cases z : X.base.get? a with
  | none => rfl
  | some o => exact absurd (Nat.lt_of_lt_of_le (Heap.lt_size (I.bk a o z)) h) (Nat.lt_irrefl _)
theorem pmk_x1 (T : Exc1 X.prog X.K X.mg x C) (hr : Room 1 X.A) (hg : Gl X x) (ha : PA X [e] ta) (hdb : (x == ("__debug__" : Str)) = false := by decide) (he : starEach [e] X.env = (false, eval e X.env) :: starEach [] X.env := by rfl) :
    PMk X (.Call (.Name x p) [e] [] pos) (fun σ H Q => ta σ H fun vs H1 => vs.length = 1 ∧ Q (.ref C) none H1) := by
  obtain ⟨D, fI, qual, q, st, B, Bn, i, newId, bt, DX, TX, Z, FI, FN, hb, hm⟩ := T
  intro pins s σ H Q I h
  refine wpAny_Call_Name_kw (ld_glob I hg hm ?_ hdb)
  refine PySem.W.callWith_K (h₀ := X.base) I.ok.mod.kin Z.kC (thn (ha.run pos pins s σ H _ I h) fun us s1 ⟨vs, H1, I1, r1, hl, q1⟩ => ⟨I1.kIn, ?_⟩) he rfl
  show wpAny _ _ (call (.ref C) us) _ _ _
  obtain ⟨nm, N', qn, bs, bm, hdct, sn, sub, ab, col, dd, k0, k1, k2, k3, k5, hC, hT⟩ := PySem.W.excInit_of I1.kIn Z.ei
  obtain ⟨v, rfl⟩ : ∃ v, us = [v] := by
    have := r1.length
    rw [hl] at this
    match us, this with
    | [v], _ => exact ⟨v, rfl⟩
  obtain ⟨hp, g, d, t, os⟩ := s1
  have kk : ∀ b o, hp.get? b = some o → ((hp.push (PySem.W.excTup [v])).push (xO C hp.objs.size none)).get? b = some o := fun b o e => Heap.get?_push_of_some _ (Heap.get?_push_of_some _ e)
  have hget : ((hp.push (PySem.W.excTup [v])).push (xO C hp.objs.size none)).get? (hp.objs.size + 1) = some (xO C hp.objs.size none) := by heap_get
  have hn : hp.get? (hp.objs.size + 1) = none := Heap.get?_none_of_le (Nat.le_succ _)
  refine wpAny_call (xn_call FN hT hC (PySem.W.looks_findIn I1.kIn Z.init) (fun self => PySem.W.bind_fn I1.kIn self Z.ty) (by show 1 ≤ sizeLine; decide) ?_)
  refine xs_run1 I1.ok.mod (fun b o z => kk b o (I1.bk b o z)) DX TX Z.toXSup FI hb (hr.make C [v] []).depth hget fun h' t1 tk k' e' => ⟨rfl, ?_⟩
  have k2 : ∀ b o, hp.get? b = some o → h'.get? b = some o := fun b o z => k' b o (fun y => by rw [y, hn] at z; cases z) (kk b o z)
  exact ⟨_, _, _, ⟨hp, g, d, t, os⟩, H1, .ref C, none, rfl, I1, k2, hn, e', ⟨rfl, rfl⟩, rfl, rfl, I1.hok.gone hn, rfl, I1.bare, raises_own Z.subE Z.tyC, q1⟩
theorem pmk_x2 (T : Exc2 X.prog X.K X.mg x C f) (hr : Room 1 X.A) (hg : Gl X x) (ha : PA X [e] ta) (hdb : (x == ("__debug__" : Str)) = false := by decide) (he : starEach [e] X.env = (false, eval e X.env) :: starEach [] X.env := by rfl) :
    PMk X (.Call (.Name x p) [e] [] pos) (fun σ H Q => ta σ H fun vs H1 => ∃ v, vs = [v] ∧ ∀ d, H1 d = none → Q (.ref C) (some d) (upd H1 d (.xd [(f, v)]))) := by
  obtain ⟨D, fI, qual, q, st, B, Bn, i, newId, bt, DX, TX, Z, FI, FN, Y, hb, hm⟩ := T
  intro pins s σ H Q I h
  refine wpAny_Call_Name_kw (ld_glob I hg hm ?_ hdb)
  refine PySem.W.callWith_K (h₀ := X.base) I.ok.mod.kin Z.kC (thn (ha.run pos pins s σ H _ I h) fun us s1 ⟨vs, H1, I1, r1, w, hl, q1⟩ => ⟨I1.kIn, ?_⟩) he rfl
  subst hl
  show wpAny _ _ (call (.ref C) us) _ _ _
  obtain ⟨nm, N', qn, bs, bm, hdct, sn, sub, ab, col, dd, k0, k1, k2, k3, k5, hC, hT⟩ := PySem.W.excInit_of I1.kIn Z.ei
  cases r1 with
  | @cons _ v _ us' rv rn =>
  cases rn
  obtain ⟨hp, g, d, t, os⟩ := s1
  have kk : ∀ b o, hp.get? b = some o → ((hp.push (PySem.W.excTup [v])).push (xO C hp.objs.size none)).get? b = some o := fun b o e => Heap.get?_push_of_some _ (Heap.get?_push_of_some _ e)
  have hget : ((hp.push (PySem.W.excTup [v])).push (xO C hp.objs.size none)).get? (hp.objs.size + 1) = some (xO C hp.objs.size none) := by heap_get
  have hn : hp.get? (hp.objs.size + 1) = none := Heap.get?_none_of_le (Nat.le_succ _)
  refine wpAny_call (xn_call FN hT hC (PySem.W.looks_findIn I1.kIn Z.init) (fun self => PySem.W.bind_fn I1.kIn self Z.ty) (by show 1 ≤ sizeLine; decide) ?_)
  refine xs_run2 I1.ok.mod (fun b o z => kk b o (I1.bk b o z)) DX TX Z.toXSup FI Y hb (base_new I1 (Nat.le_succ _)) (hr.make C [v] []).depth hget fun h' t1 tk dx k' ds dn e' n' => ⟨rfl, ?_⟩
  have k2 : ∀ b o, hp.get? b = some o → h'.get? b = some o := fun b o z => k' b o (fun y => by rw [y, hn] at z; cases z) (kk b o z)
  obtain ⟨G, g1, g2⟩ := restrict h' fun b => decide (b ≠ hp.objs.size + 1)
  have gk : ∀ b, b ≠ hp.objs.size + 1 → G.get? b = h'.get? b := fun b hb => g1 b (decide_eq_true hb)
  have ge : G.get? (hp.objs.size + 1) = none := g2 _ (by simp)
  have kG : ∀ b o, hp.get? b = some o → G.get? b = some o := fun b o z => (gk b fun y => by rw [y, hn] at z; cases z).trans (k2 b o z)
  have hd2 : hp.objs.size ≤ dx := by
    have z := ds
    rw [Heap.size_push, Heap.size_push] at z
    omega
  have nd : H1 dx = none := I1.hok.fresh hd2
  have J : Inv X pins σ (upd H1 dx (.xd [(f, w)])) ⟨G, g, d, t, os⟩ := I1.laid (t' := t) kG hd2 ⟨fun y => if y = f then some v else none, n'.at fun o z => (gk dx dn).trans z, relO_put (fs := []) (mA := fun _ => none) rv fun g => True.intro⟩
  refine ⟨_, _, _, ⟨G, g, d, t, os⟩, _, .ref C, some dx, rfl, J, fun b o z => ?_, ge, e', ⟨rfl, rfl⟩, rfl, rfl, ?_, rfl, I1.bare, raises_own Z.subE Z.tyC, q1 dx nd⟩
  · by_cases hb : b = hp.objs.size + 1
    · rw [hb, ge] at z; cases z
    · exact (gk b hb).symm.trans z
  · rw [upd_ne (Ne.symm dn)]; exact I1.hok.gone hn
variable {W : WX} {m : Rho → M D}
end
/-- one clause: its classes, the slot of its name, its suite -/
structure HX where
  cs : List Value
  i : Option Nat
  ts : Addr → Value → Option Addr → TS
abbrev offS (i : Nat) (D : Ends) : Ends := { nx := fun σ H => D.nx (σ.set i none) H, rt := D.rt, bk := fun σ H => D.bk (σ.set i none) H, ct := fun σ H => D.ct (σ.set i none) H }
def HX.go (h : HX) (a : Addr) (cls : Value) (d : Option Addr) (D : Ends) (σ : L2.St) (H : Hp) : Prop := match h.i with
  | none => h.ts a cls d D σ H
  | some i => h.ts a cls d (offS i D) (σ.set i (some (.ref a))) H
/-- what a clause's test asks: its classes by names -/
inductive TestX (X : Cx) : Expr → List Value → Prop
  | one {x : Str} {c : Value} {p : Pos} : Names X x c → TestX X (.Name x p) [c]
  | two {x y : Str} {c d : Value} {p q r : Pos} {k : Nat} : Names X x c → Names X y d → TestX X (.Tuple [.Name x p, .Name y q] k r) [c, d]
def SuiteX (X : Cx) (sts : List Stmt) (ts : Addr → Value → Option Addr → TS) : Prop := ∀ (a : Addr) (oe : Obj) (cls : Value) (d : Option Addr) (pn : List (Addr × Obj)), Zc cls d oe → (∃ vs, oe.data = .fields vs) → PSs (X.suite a ((a, oe) :: pn)) sts (ts a cls d)
inductive HdsX (X : Cx) : List ExceptHandler → List HX → Prop
  | nil : HdsX X [] []
  | one {t : Expr} {cs : List Value} {ts : Addr → Value → Option Addr → TS} {b₀ : Stmt} {suite : List Stmt} {pos' : Pos} {hds : List ExceptHandler} {l : List HX} (ht : TestX X t cs) (hs : SuiteX X (b₀ :: suite) ts) (r : HdsX X hds l) : HdsX X (.ExceptHandler (some t) none (b₀ :: suite) pos' :: hds) (⟨cs, none, ts⟩ :: l)
  | as_ {n : Str} {i : Nat} {t : Expr} {cs : List Value} {ts : Addr → Value → Option Addr → TS} {b₀ : Stmt} {suite : List Stmt} {pos' : Pos} {hds : List ExceptHandler} {l : List HX} (hi : X.N[i]? = some n) (hn : X.env.kindOf n = some .local) (ht : TestX X t cs) (hs : SuiteX X (b₀ :: suite) ts) (r : HdsX X hds l) :
      HdsX X (.ExceptHandler (some t) (some n) (b₀ :: suite) pos' :: hds) (⟨cs, some i, ts⟩ :: l)
mutual
/-- a datum as the library's -/
def pyD : D → PyData
  | .bl b => .bool b
  | .int i => .int i
  | .str x => .str x
  | .tup xs => .tuple (pyDs xs)
  | .lst xs => .list (pyDs xs)
  | .fl xs => .list (pyDs xs)
  | .dk _ _ => .dict []
  | _ => .none
def pyDs : List D → List PyData
  | [] => []
  | d :: ds => pyD d :: pyDs ds
end
section
variable {X : Cx} {pins : List (Addr × Obj)} {σ : L2.St} {H : Hp} {s : Shared}
mutual
theorem Rdv.reads (I : Inv X pins σ H s) : ∀ (d : D) {v : V} {u : Value}, Rdv X.K H v d → RelV v u → ∃ as, Reads s.heap u (pyD d) as
  | .non, _, _, h, r => by cases h; cases r; exact ⟨[], .none⟩
  | .bl b, _, _, h, r => by cases h; cases r; exact ⟨[], .bool b⟩
  | .int i, _, _, h, r => by cases h; obtain ⟨t, rfl⟩ := r; exact ⟨[], .int i t⟩
  | .str x, _, _, h, r => by cases h; obtain ⟨t, rfl⟩ := r; exact ⟨[], .str x t⟩
  | .tup xs, _, _, h, r => by
    cases h with
    | tup q t =>
      cases r
      obtain ⟨its, rv, ⟨o, e, hc, n, hd⟩, _⟩ := I.tuple q
      obtain ⟨as, ra⟩ := Rdvs.reads I xs t rv
      exact ⟨as, .tuple e hc hd (by simpa using ra)⟩
  | .lst xs, _, _, h, r => by
    cases h with
    | lst q t =>
      cases r
      obtain ⟨its, rv, ⟨o, n, e, hc, hx, hd⟩, _⟩ := I.list q
      obtain ⟨as, ra⟩ := Rdvs.reads I xs t rv
      exact ⟨_ :: as, .list e hc hd (by simpa using ra)⟩
  | .fl xs, _, _, h, r => by
    cases h with
    | fl q t =>
      cases r
      obtain ⟨its, rv, ⟨o, n, e, hc, hx, hd⟩, _⟩ := I.list q
      obtain ⟨as, ra⟩ := Rdvs.reads I xs t rv
      exact ⟨_ :: as, .list e hc hd (by simpa using ra)⟩
  | .ty _, _, _, h, _ => nomatch h
  | .ref _, _, _, h, _ => nomatch h
  | .tz _, _, _, h, _ => nomatch h
  | .dk _ _, _, _, h, _ => nomatch h
  | .dt _ _, _, _, h, _ => nomatch h
  | .ins _ _ _, _, _, h, _ => nomatch h
  | .ob _, _, _, h, _ => nomatch h
  | .lam _ _ _ _ _, _, _, h, _ => nomatch h
theorem Rdvs.reads (I : Inv X pins σ H s) : ∀ (ds : List D) {vs : List V} {us : List Value}, Rdvs X.K H vs ds → Vals vs us → ∃ as, ReadsAll s.heap us (pyDs ds) as
  | [], _, _, h, r => by cases h; cases r; exact ⟨[], .nil⟩
  | d :: ds, _, _, h, r => by
    cases h with
    | cons h1 h2 =>
      cases r with
      | cons r1 r2 =>
        obtain ⟨as, a1⟩ := Rdv.reads I d h1 r1
        obtain ⟨bs, a2⟩ := Rdvs.reads I ds h2 r2
        exact ⟨as ++ bs, .cons a1 a2⟩
end
end
mutual
theorem noDict : ∀ (n : Nat) (d : D), D.data n d = true → (pyD d).hasDict = false
  | _, .non, _ => by simp [pyD, PyData.hasDict]
  | _, .bl _, _ => by simp [pyD, PyData.hasDict]
  | _, .int _, _ => by simp [pyD, PyData.hasDict]
  | _, .str _, _ => by simp [pyD, PyData.hasDict]
  | n + 1, .tup xs, h => by simp only [pyD, PyData.hasDict]; exact noDicts n xs h
  | n + 1, .lst xs, h => by simp only [pyD, PyData.hasDict]; exact noDicts n xs h
  | n + 1, .fl xs, h => by simp only [pyD, PyData.hasDict]; exact noDicts n xs h
  | 0, .tup _, h => nomatch h
  | 0, .lst _, h => nomatch h
  | 0, .fl _, h => nomatch h
  | 0, .ob _, h => nomatch h
  | _ + 1, .ob _, h => nomatch h
  | 0, .ty _, h => nomatch h
  | _ + 1, .ty _, h => nomatch h
  | 0, .ref _, h => nomatch h
  | _ + 1, .ref _, h => nomatch h
  | 0, .tz _, h => nomatch h
  | _ + 1, .tz _, h => nomatch h
  | 0, .dk _ _, h => nomatch h
  | _ + 1, .dk _ _, h => nomatch h
  | 0, .dt _ _, h => nomatch h
  | _ + 1, .dt _ _, h => nomatch h
  | 0, .ins _ _ _, h => nomatch h
  | _ + 1, .ins _ _ _, h => nomatch h
  | 0, .lam _ _ _ _ _, h => nomatch h
  | _ + 1, .lam _ _ _ _ _, h => nomatch h
theorem noDicts : ∀ (n : Nat) (ds : List D), D.dataAll n ds = true → PyData.hasDictAll (pyDs ds) = false
  | n, [], _ => by simp [pyDs, PyData.hasDictAll]
  | n, d :: ds, h => by
    unfold D.dataAll at h
    rw [Bool.and_eq_true] at h
    simp only [pyDs, PyData.hasDictAll, noDict n d h.1, noDicts n ds h.2, Bool.or_self]
end
mutual
theorem deepP : ∀ (n : Nat) (d : D), D.data n d = true → (pyD d).depth ≤ n
  | _, .non, _ => by simp [pyD, PyData.depth]
  | _, .bl _, _ => by simp [pyD, PyData.depth]
  | _, .int _, _ => by simp [pyD, PyData.depth]
  | _, .str _, _ => by simp [pyD, PyData.depth]
  | n + 1, .tup xs, h => by simp only [pyD, PyData.depth]; have := deepPs n xs h; omega
  | n + 1, .lst xs, h => by simp only [pyD, PyData.depth]; have := deepPs n xs h; omega
  | n + 1, .fl xs, h => by simp only [pyD, PyData.depth]; have := deepPs n xs h; omega
  | 0, .tup _, h => nomatch h
  | 0, .lst _, h => nomatch h
  | 0, .fl _, h => nomatch h
  | 0, .ob _, h => nomatch h
  | _ + 1, .ob _, h => nomatch h
  | 0, .ty _, h => nomatch h
  | _ + 1, .ty _, h => nomatch h
  | 0, .ref _, h => nomatch h
  | _ + 1, .ref _, h => nomatch h
  | 0, .tz _, h => nomatch h
  | _ + 1, .tz _, h => nomatch h
  | 0, .dk _ _, h => nomatch h
  | _ + 1, .dk _ _, h => nomatch h
  | 0, .dt _ _, h => nomatch h
  | _ + 1, .dt _ _, h => nomatch h
  | 0, .ins _ _ _, h => nomatch h
  | _ + 1, .ins _ _ _, h => nomatch h
  | 0, .lam _ _ _ _ _, h => nomatch h
  | _ + 1, .lam _ _ _ _ _, h => nomatch h
theorem deepPs : ∀ (n : Nat) (ds : List D), D.dataAll n ds = true → PyData.depthAll (pyDs ds) ≤ n
  | n, [], _ => by simp [pyDs, PyData.depthAll]
  | n, d :: ds, h => by
    unfold D.dataAll at h
    rw [Bool.and_eq_true] at h
    simp only [pyDs, PyData.depthAll]
    have := deepP n d h.1
    have := deepPs n ds h.2
    omega
end
def Fl.off (i : Nat) : Fl → Fl
  | .nx ρ => .nx (ρ.set i none)
  | .rt d => .rt d
  | .bk ρ => .bk (ρ.set i none)
  | .ct ρ => .ct (ρ.set i none)
def HD.go (h : HD) (fs : XF) (A : Addr) (ρ : Rho) : M Fl := match h.i with
  | none => noX (h.den fs A ρ)
  | some i => noX (h.den fs A (ρ.set i none)) >>= fun fl => pure (fl.off i)
/-- a suite's worth -/
def SuiteD (X : Cx) (i : Option Nat) (sts : List Stmt) (den : XF → Addr → Rho → M Fl) : Prop := ∃ ts, SuiteX X sts ts ∧ ∀ (a A : Addr) (fs : XF) (dd : Option Addr) (Dn : Ends) (σ : L2.St) (w : Wr) (ρ : Rho), Wd X.K w → Lo X.K w σ ρ →
  (∀ j, i = some j → σ[j]? = some (some (.ref a))) → XDt X.K w dd fs → Pst X.K (fun _ _ _ => False) w (den fs A ρ w.S) (kS X.K Dn) → ts a (.ref A) dd Dn σ w.H
inductive HdsD (X : Cx) (mgc : Addr → Str → Prop) : List ExceptHandler → List HD → Prop
  | nil : HdsD X mgc [] []
  | one {t : Expr} {cs : List Addr} {den : XF → Addr → Rho → M Fl} {b₀ : Stmt} {suite : List Stmt} {pos' : Pos} {hds : List ExceptHandler} {l : List HD} (ht : TestX X t (cs.map Value.ref)) (hs : SuiteD X none (b₀ :: suite) den) (r : HdsD X mgc hds l) : HdsD X mgc (.ExceptHandler (some t) none (b₀ :: suite) pos' :: hds) (⟨cs, none, den⟩ :: l)
  | as_ {n : Str} {i : Nat} {t : Expr} {cs : List Addr} {den : XF → Addr → Rho → M Fl} {b₀ : Stmt} {suite : List Stmt} {pos' : Pos} {hds : List ExceptHandler} {l : List HD} (hi : X.N[i]? = some n) (hn : X.env.kindOf n = some .local) (ht : TestX X t (cs.map Value.ref)) (hs : SuiteD X (some i) (b₀ :: suite) den) (r : HdsD X mgc hds l) :
      HdsD X mgc (.ExceptHandler (some t) (some n) (b₀ :: suite) pos' :: hds) (⟨cs, some i, den⟩ :: l)
theorem Lo.off {K : Frag} {w : Wr} {σ : L2.St} {ρ : Rho} (i : Nat) (v : Option V) (l : Lo K w σ ρ) : Lo K w (σ.set i v) (ρ.set i none) := by
  refine ⟨by simp [l.len], fun j e q => ?_⟩
  by_cases hj : i = j
  · subst hj
    by_cases hl : i < ρ.length
    · rw [List.getElem?_set_self hl] at q; cases q
    · rw [List.getElem?_eq_none (by simpa using Nat.not_lt.mp hl)] at q; cases q
  · rw [List.getElem?_set_ne hj] at q
    obtain ⟨u, a, b⟩ := l.sl j e q
    exact ⟨u, by rw [List.getElem?_set_ne hj]; exact a, b⟩
theorem Pst.noX {K : Frag} {W W' : XK} {w : Wr} {α : Type} {m : M α} {k : α → Wr → Prop} (h : Pst K W w (noX m w.S) k) : Pst K W' w (m w.S) k := by
  unfold PD.noX at h
  cases e : m w.S with
  | ok a S => rw [e] at h; exact h
  | exc C fs S => rw [e] at h; exact h.elim
  | bad => rw [e] at h; exact h.elim
theorem XDt.ex {K : Frag} {w w' : Wr} {dd : Option Addr} {fs : XF} (x : Ex w w') (h : XDt K w dd fs) (hn : ∀ a, dd = some a → ∀ n, n < w.S.length → a ≠ w.ι n) : XDt K w' dd fs := by
  cases fs with
  | none => exact h
  | some q =>
    obtain ⟨a, vs, e1, e2, l, t⟩ := h
    exact ⟨a, vs, e1, x.kp _ _ e2 (hn a e1), l, Dts.ex x t⟩
/-- a field that is read off a caught exception of the class at C -/
structure XRd (K : Frag) (C : Addr) (f : Str) : Prop where
  xf : XfC K C
  no : PySem.W.findIn K (.ref C) f = some none
/-- at the law's call: only the script and the tables are tracked -/
def hp0 (ts : List Addr) (K : Frag) (a : Addr) (o : Obj) (vs : List V) : Hp := fun b => if b ∈ ts then some (.tbl #[]) else if b = a ∧ K.lookup a = none then some (.frz o (.lst vs)) else none
section
variable {P : Program} {w : World} {K : Frag} {mg mb : Str → Option Value} {CX : CXT} {k : Nat} {fa a : Addr} {cs : List (Addr × Addr)} {fd : FuncData} {x : Str} {sp : Sp} {s1 : Shared} {us : List Value} {ns : List Int}
theorem law_callG (KX : K.In s1.heap) (hns : s1.heap.Ns mainGlobals mg) (hb : s1.heap.Ns builtinsNs mb) (hbb : ∀ x : Str, x ≠ "__name__" → mb x = bootBuiltins x) (hlim : s1.heap.NoLimit) (hg : s1.gens = #[])
    (hT : ∀ p ∈ cs, s1.heap.get? p.2 = some tbO) (nT : ∀ p ∈ cs, K.lookup p.2 = none) (C : ∀ p ∈ cs, PySem.W.CodeHd s1.heap p.1 p.2)
    (hbm : ∃ (bm : Addr) (ob : Obj), mg "__builtins__" = some (.ref bm) ∧ bm ≠ builtinsNs ∧ s1.heap.get? bm = some ob ∧ ob.cls = .type "module" ∧ ob.dict = some builtinsNs ∧ ob.data = .plain)
    (ha : s1.heap.get? a = some { cls := .type "list", data := .seq us.toArray }) (hi : IntsAre us ns) (hl : ns.length ≤ sizeLine) (hr : Room k callerA)
    (F : ∀ base : Heap, K.In base → base.Ns mainGlobals mg → (∀ p ∈ cs, TabB base mg p.1 p.2) → FnG P w K mg base CX k fa fd [x] sp) (hbind : ∀ (s : Shared) (u : Value), BindsTo s fd ⟨[u], []⟩ [(x, u)])
    (hsp : ∀ H : Hp, (∀ p ∈ cs, H p.2 = some (.tbl #[])) → a ∉ cs.map (·.2) → SqL K (fun b => if b ∈ cs.map (·.2) then none else H b) a (ns.map V.int) → sp [.ref a] H (fun v _ => v = .bl true) fun _ _ _ => False)
    (hCX : ∀ H e s', CX [] H s1 (fun _ _ _ => False) e s' → False) :
    codeAny (model P w) callerA (.call (.ref fa) ⟨[.ref a], []⟩) (fun r s' => r = .ok (.ret (.bool true)) ∧ OldK s1.heap s'.heap ∧ s'.os = s1.os ∧ AllBare s'.gens) s1 := by
  have rv := vals_ints hi
  have inT : ∀ {b : Addr}, b ∈ cs.map (·.2) → ∃ p ∈ cs, b = p.2 := fun h => by
    obtain ⟨p, hp, e⟩ := List.mem_map.mp h
    exact ⟨p, hp, e.symm⟩
  have atT : ∀ {b : Addr}, b ∈ cs.map (·.2) → s1.heap.get? b = some tbO := fun h => by
    obtain ⟨p, hp, rfl⟩ := inT h
    exact hT p hp
  have naT : a ∉ cs.map (·.2) := fun z => by
    have q := atT z
    rw [ha] at q
    exact Data.noConfusion (congrArg Obj.data (Option.some.inj q))
  have tIn : ∀ p ∈ cs, p.2 ∈ cs.map (·.2) := fun p hp => List.mem_map.mpr ⟨p, hp, rfl⟩
  generalize hH : hp0 (cs.map (·.2)) K a { cls := .type "list", data := .seq us.toArray } (ns.map V.int) = H
  have H1 : ∀ p ∈ cs, H p.2 = some (.tbl #[]) := fun p hp => by rw [← hH]; exact if_pos (tIn p hp)
  have H2 : ∀ b u, H b = some u → (b ∈ cs.map (·.2) ∧ u = .tbl #[]) ∨ (b = a ∧ K.lookup a = none ∧ u = .frz { cls := .type "list", data := .seq us.toArray } (.lst (ns.map V.int))) := fun b u e => by
    rw [← hH] at e
    unfold hp0 at e
    split at e
    · rename_i z; cases e; exact .inl ⟨z, rfl⟩
    · split at e
      · rename_i z; cases e; exact .inr ⟨z.1, z.2, rfl⟩
      · cases e
  have nH : ∀ {b : Addr} {o : Obj}, s1.heap.get? b = some o → (∀ vs n, o.data ≠ .seq vs n) → o.data ≠ .fields #[] → H b = none := fun {b o} e d1 d2 => by
    cases q : H b with
    | none => rfl
    | some u =>
      rcases H2 b u q with ⟨z, _⟩ | ⟨z, _, _⟩
      · rw [atT z] at e; cases e; exact (d2 rfl).elim
      · rw [z, ha] at e; cases e; exact (d1 _ _ rfl).elim
  have nD : ∀ {b : Addr} {o : Obj} {es : Array DictEntry} {ep : Nat}, s1.heap.get? b = some o → o.data = .dict es ep → H b = none := fun e d => nH e (fun vs n z => by rw [d] at z; cases z) fun z => by rw [d] at z; cases z
  have nsB : ∀ {b : Addr} {m : Str → Option Value}, s1.heap.Ns b m → (hidT s1.heap H).Ns b m := fun ⟨o, es, ep, e, d, r⟩ => ⟨o, es, ep, hidT_get e (nD e d), d, r⟩
  have kB : K.In (hidT s1.heap H) := fun b o e => hidT_get (KX b o e) (by
    cases q : H b with
    | none => rfl
    | some u =>
      rcases H2 b u q with ⟨z, _⟩ | ⟨z, z2, _⟩
      · obtain ⟨p, hp, rfl⟩ := inT z
        rw [nT p hp] at e; cases e
      · rw [z, z2] at e; cases e)
  have mB : L2.Mod K mg (hidT s1.heap H) := ⟨kB, nsB hns, ⟨mb, nsB hb, hbb⟩, let ⟨mc, h1, h2⟩ := hlim; ⟨mc, nsB h1, h2⟩⟩
  have tB : ∀ p ∈ cs, TabB (hidT s1.heap H) mg p.1 p.2 := fun p hp => by
    have hTp := hT p hp
    refine ⟨?_, ?_, fun z => ?_⟩
    · obtain ⟨o, vs, file, tf, flags, tg, inF, text, tt, e1, r1, r2, r3, rr⟩ := C p hp
      exact ⟨o, vs, file, tf, flags, tg, inF, text, tt, hidT_get e1 (nH e1 (fun vs n z => by rw [r2] at z; cases z) fun z => by rw [r2] at z; cases z; simp at r3), r1, r2, r3, rr⟩
    · obtain ⟨bm, ob, b1, b2, b3, b4, b5, b6⟩ := hbm
      refine ⟨bm, ob, b1, b2, fun q => ?_, fun q => ?_, hidT_get b3 (nH b3 (fun vs n z => by rw [b6] at z; cases z) fun z => by rw [b6] at z; cases z), b4, b5, b6⟩
      · obtain ⟨o, es, ep, e, hd, _⟩ := hns
        rw [q, e] at b3; cases b3
        rw [hd] at b6; cases b6
      · rw [q, hTp] at b3; cases b3; cases b6
    · obtain ⟨o, es, ep, e, hd, _⟩ := hns
      rw [z, hTp] at e; cases e; cases hd
  have okH : HOk P w H s1.heap := fun b u e => by
    rcases H2 b u e with ⟨z, rfl⟩ | ⟨rfl, _, rfl⟩
    · exact atT z
    · exact ⟨ha, by rw [List.length_map]; exact hl, us, _, rv, ha⟩
  have sq : SqL K (fun b => if b ∈ cs.map (·.2) then none else H b) a (ns.map V.int) := by
    cases hk : K.lookup a with
    | some o =>
      have e := KX a o hk
      rw [ha] at e
      cases e
      exact .inr ⟨_, us.toArray, _, hk, rfl, rfl, rfl, by rw [List.size_toArray, hi.length]; exact hl, by simpa using rv⟩
    | none =>
      refine .inl (.inr ⟨{ cls := .type "list", data := .seq us.toArray }, (if_neg naT).trans ?_⟩)
      rw [← hH]
      exact (if_neg naT).trans (if_pos ⟨rfl, hk⟩)
  have env : Env0 P w K mg (hidT s1.heap H) callerA [] s1 H := ⟨rfl, mB, fun b o e => of_hidT e, Nat.le_of_eq (hidT_size _ _), trivial, fun b hb => (nomatch (show b ∈ ([] : List Addr) from hb)), okH, .of_eq hg⟩
  refine codeAny_mono ((F _ kB (nsB hns) tB).run callerA [] s1 H ⟨[.ref a], []⟩ [.ref a] [.ref a] _ _ hr rfl env (hbind s1 (.ref a)) (.cons rfl .nil) (hsp H H1 naT sq)) fun r s2 h => ?_
  obtain ⟨u, rfl, h⟩ : ∃ u, r = .ok (.ret u) ∧ CE [] P w H s1 (fun v _ => v = .bl true) u s2 := by
    rcases r with er | fl
    · exact (hCX H er s2 h).elim
    · cases fl <;> first | exact False.elim h | exact ⟨_, rfl, h⟩
  obtain ⟨v, H', os, bare, un, hok', r', q⟩ := h
  obtain rfl : v = .bl true := q
  obtain rfl : u = Value.bool true := r'
  have old : ∀ b o, b ∉ cs.map (·.2) → s1.heap.get? b = some o → s2.heap.get? b = some o := fun b o nb e => by
    cases y : H b with
    | none => exact un.keep b o e y (fun z => nomatch (show b ∈ ([] : List Addr) from z)) (by simp)
    | some u =>
      rcases H2 b u y with ⟨z, _⟩ | ⟨_, _, rfl⟩
      · exact absurd z nb
      · have z2 := (hok' b _ (un.frzs b _ _ y)).1
        have z1 := (okH b _ y).1
        rw [e] at z1; cases z1
        exact z2
  have grew : ∀ p ∈ cs, ∃ more : Array Value, s2.heap.get? p.2 = some { cls := .none, data := .fields more } := fun p hp => by
    obtain ⟨more, z⟩ := un.tbls p.2 #[] (H1 p hp)
    exact ⟨_, hok' p.2 _ z⟩
  refine ⟨rfl, ⟨fun b o e => ?_, fun b o e => ?_⟩, os, bare⟩
  · by_cases hb : b ∈ cs.map (·.2)
    · obtain ⟨p, hp, rfl⟩ := inT hb
      obtain ⟨more, hm⟩ := grew p hp
      rw [hT p hp] at e
      cases e
      exact .inr (.inl ⟨((C p hp).tab (hT p hp)).isCodeTable, rfl, #[], more, rfl, by rw [Array.empty_append]; exact hm⟩)
    · exact .inl (old b o hb e)
  · by_cases hb : b ∈ cs.map (·.2)
    · obtain ⟨p, hp, rfl⟩ := inT hb
      obtain ⟨more, hm⟩ := grew p hp
      exact ⟨_, hm⟩
    · exact ⟨o, old b o hb e⟩
end
/-- the store at a law's call -/
def tbS (L : List (Addr × Str)) : List MO := L.map fun p => .tb p.1 p.2
theorem law_entryG {F : List D → M D} {K : Frag} {H : Hp} {a : Addr} {ns : List Int} {L : List (Addr × Str)} (hl : ns.length ≤ 63) (hL : ∀ p ∈ L, H p.1 = some (.tbl #[])) (hnd : (L.map (·.1)).Nodup) (hS : SqL K (fun b => if b ∈ L.map (·.1) then none else H b) a (ns.map V.int))
    (hF : F [.fl (ns.map D.int)] (tbS L) = .ok (.bl true) (tbS L)) : spM K 1 F [.ref a] H (fun v _ => v = .bl true) (fun _ _ _ => False) := by
  refine ⟨{ ι := fun n => ((L.map (·.1))[n]?).getD 0, B := fun b => if b ∈ L.map (·.1) then none else H b, S := tbS L, H := H }, [.fl (ns.map D.int)], rfl, ⟨fun b o h => ?_, fun n h => ?_, fun n o h => ?_, fun n m h1 h2 e => ?_⟩, .cons (.fl hS ?_ (Dats.ints ns)) .nil, rfl, ?_⟩
  · have h : (if b ∈ L.map (·.1) then none else H b) = some o := h
    split at h
    · cases h
    · exact h
  · have h : n < (tbS L).length := h
    have h : n < L.length := by simpa [tbS] using h
    show (if _ then none else H _) = none
    rw [if_pos]
    show ((L.map (·.1))[n]?).getD 0 ∈ _
    rw [List.getElem?_map, List.getElem?_eq_getElem h]
    exact List.mem_map.mpr ⟨L[n], List.getElem_mem h, rfl⟩
  · have h : (tbS L)[n]? = some o := h
    unfold tbS at h
    rw [List.getElem?_map] at h
    cases e : L[n]? with
    | none => rw [e] at h; cases h
    | some p =>
      rw [e] at h
      cases h
      refine ⟨#[], ?_, ?_, trivial, fun pos cv z => ?_⟩
      · show H (((L.map (·.1))[n]?).getD 0) = _
        rw [List.getElem?_map, e]
        exact hL p (List.mem_of_getElem? e)
      · show (((L.map (·.1))[n]?).getD 0) = p.1
        rw [List.getElem?_map, e]; rfl
      · have z : codeAmong pos [] = some cv := z
        simp [codeAmong] at z
  · have h1 : n < L.length := by simpa [tbS] using h1
    have h2 : m < L.length := by simpa [tbS] using h2
    have e : ((L.map (·.1))[n]?).getD 0 = ((L.map (·.1))[m]?).getD 0 := e
    have l1 : n < (L.map (·.1)).length := by simpa using h1
    have l2 : m < (L.map (·.1)).length := by simpa using h2
    rw [List.getElem?_eq_getElem l1, List.getElem?_eq_getElem l2] at e
    have e : (L.map (·.1))[n] = (L.map (·.1))[m] := e
    rcases Nat.lt_trichotomy n m with z | z | z
    · exact absurd e (List.pairwise_iff_getElem.mp hnd n m l1 l2 z)
    · exact z
    · exact absurd e.symm (List.pairwise_iff_getElem.mp hnd m n l2 l1 z)
  · rw [List.length_map]; exact Nat.le_trans hl (by decide)
  · show Pst K _ _ (F [.fl (ns.map D.int)] (tbS L)) _
    rw [hF]
    intro w' e x d v h
    cases h
    rfl
theorem isNoneV_ok {v : Value} (h : isNoneV v = true) : v = .none := by cases v <;> first | rfl | cases h
theorem xdef_of {P : Program} {K : Frag} {d : XA} {file : Str} (e : xfn K (d.at_ K) = d.val) (h : d.ok file K = true) (hf : P.main.file = file) : XDef P K (d.D K) (d.at_ K) d.qual d.st := by
  unfold xfn XA.val at e
  unfold XA.ok at h
  cases q : K.lookup (d.at_ K) with
  | none => rw [q] at h; cases h
  | some o =>
    obtain ⟨oc, od, dt, sl⟩ := o
    rw [q] at h e
    cases dt with
    | func fd =>
      obtain ⟨n1, n2, ps, bd, sc, gl, cl, df, kd, doc, pm, an, cd, ct, bi⟩ := fd
      dsimp only at e h
      simp only [Option.some.injEq, Prod.mk.injEq] at e
      obtain ⟨rfl, rfl, rfl, rfl, rfl, rfl, e7, rfl⟩ := e
      simp only [Bool.and_eq_true] at h
      obtain ⟨h1, h2, h3, h4, h5⟩ := h
      obtain rfl := isNoneV_ok h1
      match cl, e7, h4 with
      | [(y, cc)], e7, h4 =>
        have e7 : [y] = [("__class__" : Str)] := e7
        cases e7
        have h4 : cellB K (d.D K) cc = true := h4
        unfold cellB at h4
        split at h4
        · rename_i o2 od2 E sl2 l4
          obtain rfl := of_decide_eq_true h4
          unfold fileB at h3
          split at h3
          · rename_i cda
            split at h3
            · rename_i oc3 od3 vs sl3 l2
              split at h3
              · rename_i f tf l3
                have h3 := of_decide_eq_true h3
                subst h3
                subst hf
                unfold clsB at h5
                exact ⟨⟨_, _, _, _, _, _, _, _, cda, cc, _, _, vs, _, tf, _, _, _, q, h2, l2, l3, l4⟩, Option.isSome_iff_exists.mp h5⟩
              · cases h3
            · cases h3
          · cases h3
        · cases h4
    | _ => cases h
theorem xcls_of {K : Frag} {C D fI : Addr} {B i newId : String} {bt : List Value} (h : xclsB K C D fI B i newId bt = true) : XCls K C D fI B i newId bt := by
  unfold xclsB at h
  simp only [Bool.and_eq_true, decide_eq_true_eq] at h
  obtain ⟨h1, h2, h3, h4, h5, h6, h7, h8, h9, h10, h11⟩ := h
  exact ⟨⟨h3, h4, h5, h6, h7, h8, h9, h10, h11⟩, h1, h2⟩
theorem xfld_of {K : Frag} {C : Addr} {f : Str} {bt : List Value} (h : xfldB K C f bt = true) : XFld K C f bt := by
  unfold xfldB at h
  simp only [Bool.and_eq_true, decide_eq_true_eq] at h
  exact ⟨h.1, h.2.1, h.2.2.1, h.2.2.2⟩
theorem xrd_of {K : Frag} {C : Addr} {f : Str} (h : xrdB K C f = true) : XRd K C f := by
  unfold xrdB at h
  simp only [Bool.and_eq_true, decide_eq_true_eq] at h
  exact ⟨xfB_ok h.1, h.2⟩
theorem exc_of {K : Frag} {D : Addr} (h : excB K D = true) : ExcC K D := by
  unfold excB at h
  simp only [Bool.and_eq_true, decide_eq_true_eq] at h
  obtain ⟨h1, h2, h3, h4, h5, h6, h7, h8⟩ := h
  exact ⟨h1, h2, h3, h4, h5, h6, h7, h8⟩
theorem tab_fun {K : Frag} {x qual : Str} {st : Stmt} {f : Addr} {fd : FuncData} (F : Fun K x qual st f fd) (h : tabOB K f = true) : FunC K x qual st f (tcA K f).1 fd := by
  obtain ⟨oc, od, kV, doc, pm, an, cdv, ct, osl, e, lk, hc⟩ := F.ex
  unfold tabOB at h
  simp only [Bool.and_eq_true] at h
  have h3 := h.2.2
  rw [lk] at h3
  have h3 : decide (fd.code = .ref (tcA K f).1) = true := h3
  have h3 := of_decide_eq_true h3
  subst e
  have h3 : cdv = .ref (tcA K f).1 := h3
  rw [h3] at hc lk ⊢
  exact ⟨⟨oc, od, kV, doc, pm, an, ct, osl, rfl, lk, hc⟩, F.kp⟩
theorem obsT_eq {q : HkT} {g : Addr → Option Obj} {s : Shared} (h : ∀ a, g a = s.heap.get? a) : obsT q g = (show AlT from (hookT q).obs s) := by
  rw [show g = s.heap.get? from funext h]; rfl
theorem SaysT.xd {q : HkT} {K : Frag} {h : Heap} (z : SaysT q K h) (i : Nat) {d : XA} (e : q.xs[i]? = some d) : xfn K (d.at_ K) = d.val := by
  have y := congrArg (fun l => l[i]?) z.x
  simp only [List.getElem?_map, e, Option.map_some] at y
  exact Option.some.inj y
/-- what is known of a law at its call -/
def LawG (l : PySem.W.OpenLaw) (w : World) (CX : CXT) (k n : Nat) (x : Str) (mg : Str → Option Value) (fa : Addr) (h : Heap) : Prop :=
  ∃ (K : Frag) (fd : FuncData) (cs : List (Addr × Addr)) (sp : Sp), K.In h ∧ (∀ p ∈ cs, h.get? p.2 = some tbO) ∧ (∀ p ∈ cs, K.lookup p.2 = none) ∧ (∀ p ∈ cs, PySem.W.CodeHd h p.1 p.2) ∧ (∀ (s : Shared) (u : Value), BindsTo s fd ⟨[u], []⟩ [(x, u)]) ∧
    (∀ (H : Hp) (a : Addr) (ns : List Int), ns.length ≤ n → (∀ p ∈ cs, H p.2 = some (.tbl #[])) → a ∉ cs.map (·.2) → SqL K (fun b => if b ∈ cs.map (·.2) then none else H b) a (ns.map V.int) → sp [.ref a] H (fun v _ => v = .bl true) fun _ _ _ => False) ∧
    ∀ base : Heap, K.In base → base.Ns mainGlobals mg → (∀ p ∈ cs, TabB base mg p.1 p.2) → FnG l.prog w K mg base CX k fa fd [x] sp
theorem walkG {l : PySem.W.OpenLaw} {n k : Nat} {q : Program} {loose : List Str} {XP : (Str → Option Value) → Heap → Prop} {YP : World → Heap → Prop} {d : DefRec} {CX : World → CXT} {x : Str}
    (hn : l.most = some n) (h2 : n ≤ sizeLine) (hdf : d.params.defaults = []) (hr : Room k callerA)
    (F : ∀ (w : World) (mg : Str → Option Value) (fa : Addr) (h : Heap), YP w h → h.Ns mainGlobals mg → mg d.name = some (.ref fa) → LawG l w (CX w) k n x mg fa h)
    (hCX : ∀ (w : World) (H : Hp) (s : Shared) (e : Value) (s' : Shared), CX w [] H s (fun _ _ _ => False) e s' → False) :
    PySem.W.WalkO q loose XP YP l.row.toRowW d [] (fun f vs => PySem.call f vs) := by
  refine Att.attach_call hn hdf fun w t0 t1 mg mb fa ob pm cv dc a vs ns G Y i1 i2 i3 i4 i5 i6 i7 i8 => ?_
  obtain ⟨K, fd, cs, sp, KX, hT, nT, C, hb, hsp, hF⟩ := F w mg fa _ Y G.T.g i4
  exact law_callG KX G.T.g G.T.b G.T.builtins G.T.nolimit i8 hT nT C G.T.bmain i5 i6 (Nat.le_trans i7 h2) hr hF hb (fun H h1 h2 h3 => hsp H a ns i7 h1 h2 h3) fun H e s' => hCX w H t1 e s'
theorem lkF_eq (a : Addr) : ∀ K : Frag, lkF K a = K.lookup a
  | [] => rfl
  | (b, o) :: r => by
    show cond (Nat.beq a b) (some o) (lkF r a) = _
    rw [lkF_eq a r]
    show _ = (match a == b with | true => some o | false => List.lookup a r)
    have e : (a == b) = Nat.beq a b := by
      cases h : Nat.beq a b with
      | true => exact beq_iff_eq.mpr (Nat.eq_of_beq_eq_true h)
      | false => exact beq_eq_false_iff_ne.mpr (Nat.ne_of_beq_eq_false h)
    rw [e]
    cases Nat.beq a b <;> rfl
theorem codeF_eq (K : Frag) (cd : Value) (q : Str) : codeF K cd q = PySem.W.codeIn K cd q := by
  cases cd <;> first | rfl | (unfold codeF PySem.W.codeIn; simp only [lkF_eq]; rfl)
theorem okF_eq (K : Frag) (d : He5.DefA) : okF K d = d.ok K := by
  unfold okF He5.DefA.ok PySem.W.keepIn
  rw [lkF_eq]
  cases h : K.lookup (d.at_ K) with
  | none => simp
  | some o =>
    obtain ⟨c, dd, data, sl⟩ := o
    cases data with
    | func fd => simp only [codeF_eq, h, Bool.true_and]
    | _ => simp
theorem fnF_eq (K : Frag) (a : Addr) : fnF K a = He5.fnA K a := by unfold fnF He5.fnA; rw [lkF_eq]; cases List.lookup a K with
  | none => rfl
  | some o => obtain ⟨c, dd, data, sl⟩ := o; cases data <;> rfl
theorem obsF_eq {q : HkT} {g : Addr → Option Obj} : obsF q g = obsT q g := by
  unfold obsF obsT obsP
  simp only [okF_eq, fnF_eq]
set_option maxHeartbeats 4000000
theorem hob_eq (s : PySem.W.SharedT) : hob s = hH.obs s.abs := obsF_eq.trans (obsT_eq (HandSHeadRun.getT_eq s))
set_option maxHeartbeats 1000000
def typK (cs : List Addr) : D → Bool
  | .non => true
  | .bl _ => true
  | .int _ => true
  | .str _ => true
  | .tup _ => true
  | .lst _ => true
  | .fl _ => true
  | .dk _ _ => true
  | .dt _ _ => true
  | .ins C _ _ => decide (C ∈ cs)
  | _ => false
mutual
def typD (cs : List Addr) : D → Bool
  | .tup xs => typDs cs xs
  | d => typK cs d
def typDs (cs : List Addr) : List D → Bool
  | [] => true
  | d :: ds => typD cs d && typDs cs ds
end
/-- the answer b where g holds -/
def gd (g : Bool) (b : Bool) : M D := fun S => if g = true then .ok (.bl b) S else .bad
def below (d : D) (n : Int) : Bool := match isIntD d with
  | some i => decide (0 ≤ i) && decide (i < n)
  | none => false
theorem lenDD_tup (S : List MO) (xs : List D) : lenDD S [.tup xs] = some (.int (xs.length : Nat)) := (rfl)
theorem lenDD_str (S : List MO) (z : Str) : lenDD S [.str z] = some (.int (z.length : Nat)) := (rfl)
theorem lenDD_lst (S : List MO) (xs : List D) : lenDD S [.lst xs] = some (.int (xs.length : Nat)) := (rfl)
theorem lenDD_dk (S : List MO) (ks : List Key) (xs : List D) : lenDD S [.dk ks xs] = some (.int (ks.length : Nat)) := (rfl)
theorem inDD_str (S : List MO) (y : D) (t : Str) : inDD S y (.str t) = inD S y (.str t) := (rfl)
theorem inDD_tup (S : List MO) (y : D) (t : List D) : inDD S y (.tup t) = inD S y (.tup t) := (rfl)
theorem inDD_dk (S : List MO) (y : D) (ks : List Key) (vs : List D) : inDD S y (.dk ks vs) = dinD S y (.dk ks vs) := (rfl)
/-- one < other, the next, and so on -/
def ltB (a b : D) : Option Bool := match ltTD [] a b with
  | some (.bl k) => some k
  | _ => none
def ascBs : List D → Option (List Bool)
  | a :: b :: r => (ltB a b).bind fun k => (ascBs (b :: r)).map fun t => k :: t
  | _ => some []
def asc (xs : List D) : Option Bool := (ascBs xs).map fun t => t.all id
theorem cut1 {α : Type} (xs : List α) : cutL xs (some 1) none = xs.drop 1 := by
  cases xs with
  | nil => rfl
  | cons x xs =>
    unfold cutL HT.sIx
    simp
theorem zip2_tt (xs ys : List D) : zip2 (.tup xs) (.tup ys) = some (zipD xs ys) := (rfl)
theorem zip2_ll (xs ys : List D) : zip2 (.lst xs) (.lst ys) = some (zipD xs ys) := (rfl)
theorem bSeq_2 (i j : Nat) (a b : D) (ρ : Rho) : bSeq 2 (bCons (bName i) (bCons (bName j) bNil)) (.tup [a, b]) ρ = some ((ρ.set i (some a)).set j (some b)) := (rfl)
def areBelow (d : D) (n : Int) : Bool := match tupOf d with
  | some xs => xs.all (fun x => below x n) && (asc xs).getD false
  | none => false
def modeSet (d : D) (n : Int) : Bool := areBelow d n && (match tupOf d with | some xs => !xs.isEmpty | none => false)
def alpha : Str := "abcdefghijklmnopqrstuvwxyz"
def isNameS (x : Str) : Bool := decide (0 < (x.length : Int)) && (decide ((x.length : Int) ≤ 8) && x.cps.toList.all fun c => decide (c ∈ alpha.cps.toList))
def strOfD : D → Option Str
  | .str x => some x
  | _ => none
def isName (d : D) : Bool := match strOfD d with
  | some x => isNameS x
  | none => false
theorem ixDD_tup (S : List MO) (xs : List D) (y : D) : ixDD S (.tup xs) y = ixD S (.tup xs) y := (rfl)
theorem at2_0 (a b : D) : atI [a, b] 0 = some a := (rfl)
theorem at2_1 (a b : D) : atI [a, b] 1 = some b := (rfl)
theorem at3_0 (a b c : D) : atI [a, b, c] 0 = some a := (rfl)
theorem at3_1 (a b c : D) : atI [a, b, c] 1 = some b := (rfl)
theorem at3_2 (a b c : D) : atI [a, b, c] 2 = some c := (rfl)
def isPair (d : D) : Bool := match tupOf d with
  | some xs => decide (xs.length = 2)
  | none => false
def pairBelow (m n : Int) (d : D) : Bool := match tupOf d with
  | some [a, b] => below a m && below b n
  | _ => false
def arePairs (d : D) (m n : Int) : Bool := match tupOf d with
  | some xs => xs.all isPair && (xs.all (pairBelow m n) && (asc xs).getD false)
  | none => false
def fst2 (d : D) : D := match tupOf d with
  | some xs => xs.getD 0 .non
  | none => .non
def firsts (d : D) : List D := match tupOf d with
  | some xs => xs.map fst2
  | none => []
def isAns3 (a b p : D) (n : Int) : Bool := isName a && (isName b && (arePairs p 4 n && (asc (firsts p)).getD false))
def isAns (d : D) (n : Int) : Bool := match tupOf d with
  | some [a, b, p] => isAns3 a b p n
  | _ => false
def areAns (d : D) (n : Int) : Bool := match tupOf d with
  | some xs => xs.all (fun x => isAns x n) && (asc (xs.map fst2)).getD false
  | none => false
set_option maxHeartbeats 2000000
theorem tupOf_t (xs : List D) : tupOf (.tup xs) = some xs := (rfl)
def tagS (d : D) (t : Str) : Bool := match strOfD d with
  | some x => decide (x = t)
  | none => false
def isE (d : D) : Bool := match tupOf d with
  | some xs => xs.isEmpty
  | none => false
theorem resv_data {S : List MO} {n : Nat} {d : D} (h : D.data n d = true) : resv S d = d := by
  cases d with
  | ob m => cases n <;> cases h
  | _ => rfl
mutual
theorem data_typ {cs : List Addr} : ∀ (n : Nat) (d : D), D.data n d = true → typD cs d = true
  | _, .non, _ => by unfold typD; rfl
  | _, .bl _, _ => by unfold typD; rfl
  | _, .int _, _ => by unfold typD; rfl
  | _, .str _, _ => by unfold typD; rfl
  | 0, .tup xs, h => by cases h
  | n + 1, .tup xs, h => by unfold typD; exact datas_typ n xs h
  | _, .lst _, _ => by unfold typD; rfl
  | _, .fl _, _ => by unfold typD; rfl
  | n, .dk _ _, h => by cases n <;> cases h
  | n, .dt _ _, h => by cases n <;> cases h
  | n, .ins _ _ _, h => by cases n <;> cases h
  | n, .ob _, h => by cases n <;> cases h
  | n, .ty _, h => by cases n <;> cases h
  | n, .ref _, h => by cases n <;> cases h
theorem datas_typ {cs : List Addr} : ∀ (n : Nat) (ds : List D), D.dataAll n ds = true → typDs cs ds = true
  | _, [], _ => by unfold typDs; rfl
  | n, d :: ds, h => by
    unfold D.dataAll at h
    rw [Bool.and_eq_true] at h
    unfold typDs
    rw [data_typ n d h.1, datas_typ n ds h.2]
    rfl
end
def goB (a b p : D) (n : Int) : Bool := below a n && (below b n && (!isE p && arePairs p 4 4))
def callB (a b m s w : D) (n : Int) : Bool := below a n && (below b n && (isName m && (modeSet s 4 && areAns w n)))
def raiseB (a b g s : D) (n : Int) : Bool := below a n && (below b n && (isName g && modeSet s 4))
def leaveB (a s : D) (n : Int) : Bool := below a n && modeSet s 4
def moveB (xs : List D) (n : Int) : Bool := match xs with
  | [t, a, b, p] => tagS t "go" && goB a b p n
  | [t, a, b, m, s, w] => tagS t "call" && callB a b m s w n
  | [t, a, b, g, s] => tagS t "raise" && raiseB a b g s n
  | [t, a, s] => tagS t "leave" && leaveB a s n
  | _ => false
def isMove (d : D) (n : Int) : Bool := match tupOf d with
  | some xs => moveB xs n
  | none => false
structure Ans where
  sig : Str
  to : Str
  un : List (Nat × Nat)
inductive Mv where
  | go (a b : Nat) (ps : List (Nat × Nat))
  | call (a b : Nat) (m : Str) (s : List Nat) (w : List Ans)
  | raise (a b : Nat) (g : Str) (s : List Nat)
  | leave (a : Nat) (s : List Nat)
structure Pr where
  name : Str
  points : Nat
  moves : List Mv
structure Pg where
  modes : Nat
  starts : List Nat
  signals : List Str
  procs : List Pr
  kept : D := .dk [] []
def eN (n : Nat) : D := .int (n : Nat)
def eNs (l : List Nat) : D := .tup (l.map eN)
def eNN (p : Nat × Nat) : D := .tup [eN p.1, eN p.2]
def ePs (l : List (Nat × Nat)) : D := .tup (l.map eNN)
def eAns (a : Ans) : D := .tup [.str a.sig, .str a.to, ePs a.un]
def eAs (l : List Ans) : D := .tup (l.map eAns)
def eMv : Mv → D
  | .go a b ps => .tup [.str "go", eN a, eN b, ePs ps]
  | .call a b m s w => .tup [.str "call", eN a, eN b, .str m, eNs s, eAs w]
  | .raise a b g s => .tup [.str "raise", eN a, eN b, .str g, eNs s]
  | .leave a s => .tup [.str "leave", eN a, eNs s]
def eMs (l : List Mv) : D := .tup (l.map eMv)
def eNm (s : Str) : D := .str s
def dN (d : D) : Option Nat := (isIntD d).bind fun i => if 0 ≤ i then some i.toNat else none
theorem dN_e (n : Nat) : dN (eN n) = some n := by unfold dN eN; show (if (0 : Int) ≤ n then some (n : Int).toNat else none) = _; rw [if_pos (by omega)]; rfl
/-- moves of common size -/
def small : Mv → Bool
  | .go _ _ ps => decide (ps.length ≤ 100)
  | .call _ _ _ s w => decide (s.length ≤ 100) && (decide (w.length ≤ 100) && w.all fun a => decide (a.un.length ≤ 100))
  | .raise _ _ _ s => decide (s.length ≤ 100)
  | .leave _ s => decide (s.length ≤ 100)
def namesOf : Mv → List Str
  | .call _ _ m _ w => m :: w.map (·.to)
  | _ => []
def sigsOf : Mv → List Str
  | .call _ _ _ _ w => w.map (·.sig)
  | .raise _ _ g _ => [g]
  | _ => []
def modesOf : Mv → List Nat
  | .go _ _ ps => ps.flatMap fun p => [p.1, p.2]
  | .call _ _ _ s w => s ++ w.flatMap fun a => a.un.map (·.1)
  | .raise _ _ _ s => s
  | .leave _ s => s
theorem at3_0' (x0 x1 x2 : D) : atI [x0, x1, x2] 0 = some x0 := (rfl)
theorem at3_2' (x0 x1 x2 : D) : atI [x0, x1, x2] 2 = some x2 := (rfl)
theorem at4_0' (x0 x1 x2 x3 : D) : atI [x0, x1, x2, x3] 0 = some x0 := (rfl)
theorem at4_2' (x0 x1 x2 x3 : D) : atI [x0, x1, x2, x3] 2 = some x2 := (rfl)
theorem at5_0' (x0 x1 x2 x3 x4 : D) : atI [x0, x1, x2, x3, x4] 0 = some x0 := (rfl)
theorem at5_2' (x0 x1 x2 x3 x4 : D) : atI [x0, x1, x2, x3, x4] 2 = some x2 := (rfl)
theorem at5_3' (x0 x1 x2 x3 x4 : D) : atI [x0, x1, x2, x3, x4] 3 = some x3 := (rfl)
theorem at6_0' (x0 x1 x2 x3 x4 x5 : D) : atI [x0, x1, x2, x3, x4, x5] 0 = some x0 := (rfl)
theorem at6_2' (x0 x1 x2 x3 x4 x5 : D) : atI [x0, x1, x2, x3, x4, x5] 2 = some x2 := (rfl)
theorem at6_3' (x0 x1 x2 x3 x4 x5 : D) : atI [x0, x1, x2, x3, x4, x5] 3 = some x3 := (rfl)
theorem at6_5' (x0 x1 x2 x3 x4 x5 : D) : atI [x0, x1, x2, x3, x4, x5] 5 = some x5 := (rfl)
theorem seqM_app (x : D) (S : List MO) : seqM x S = toRes (seqOf S x) S := (rfl)
theorem sne_go_call : (("go" : Str) = "call") = False := eq_false (by decide +kernel)
theorem sne_go_raise : (("go" : Str) = "raise") = False := eq_false (by decide +kernel)
theorem sne_go_leave : (("go" : Str) = "leave") = False := eq_false (by decide +kernel)
theorem sne_call_go : (("call" : Str) = "go") = False := eq_false (by decide +kernel)
theorem sne_call_raise : (("call" : Str) = "raise") = False := eq_false (by decide +kernel)
theorem sne_call_leave : (("call" : Str) = "leave") = False := eq_false (by decide +kernel)
theorem sne_raise_go : (("raise" : Str) = "go") = False := eq_false (by decide +kernel)
theorem sne_raise_call : (("raise" : Str) = "call") = False := eq_false (by decide +kernel)
theorem sne_raise_leave : (("raise" : Str) = "leave") = False := eq_false (by decide +kernel)
theorem sne_leave_go : (("leave" : Str) = "go") = False := eq_false (by decide +kernel)
theorem sne_leave_call : (("leave" : Str) = "call") = False := eq_false (by decide +kernel)
theorem sne_leave_raise : (("leave" : Str) = "raise") = False := eq_false (by decide +kernel)
theorem below_e (k n : Nat) : below (eN k) (n : Int) = decide (k < n) := by
  show (decide ((0 : Int) ≤ (k : Int)) && decide ((k : Int) < (n : Int))) = _
  have h1 : decide ((0 : Int) ≤ (k : Int)) = true := by simp
  rw [h1, Bool.true_and]
  exact decide_eq_decide.mpr (by omega)
theorem dataAll_map {α : Type} {f : α → D} {n : Nat} (h : ∀ a, D.data n (f a) = true) : ∀ l : List α, D.dataAll n (l.map f) = true
  | [] => by unfold D.dataAll; rfl
  | a :: l => by rw [List.map_cons]; unfold D.dataAll; rw [h, dataAll_map h l]; rfl
def validPr (p : Pr) : Bool := isNameS p.name && (decide (0 < p.points) && (decide (p.points ≤ 6) && (decide (p.moves.length ≤ 12) && p.moves.all fun m => isMove (eMv m) p.points)))
theorem gtD_n (S : List MO) (i j : Int) : gtD S (.int i) (.int j) = some (.bl (decide (j < i))) := (rfl)
set_option maxHeartbeats 1000000
/-- a turn knows that its item is one of those walked -/
def compS {α : Type} : (xs : List α) → ((a : α) → a ∈ xs → List MO → Res (Option D)) → M (List D)
  | [], _ => pure []
  | a :: as, f => noX (α := Option D) (f a List.mem_cons_self) >>= fun o => compS as (fun b hb => f b (List.mem_cons_of_mem _ hb)) >>= fun rs => pure (o.toList ++ rs)
theorem compM_S (f : D → M (Option D)) (xs : List D) : compM f xs = compS xs (fun a _ S => f a S) := by
  induction xs with
  | nil => rfl
  | cons d ds ih => simp only [compM, compS, ih]
theorem compS_map {α β : Type} (e : α → β) (xs : List α) (f : (b : β) → b ∈ xs.map e → List MO → Res (Option D)) : compS (xs.map e) f = compS xs (fun a h S => f (e a) (List.mem_map_of_mem h) S) := by
  induction xs with
  | nil => rfl
  | cons d ds ih => exact congrArg (fun m : M (List D) => noX (α := Option D) (f (e d) List.mem_cons_self) >>= fun o => m >>= fun rs => pure (o.toList ++ rs)) (ih fun b hb => f b (List.mem_cons_of_mem _ hb))
theorem compS_nil {α : Type} (f : (a : α) → a ∈ [] → List MO → Res (Option D)) (S : List MO) : compS [] f S = .ok [] S := (rfl)
theorem compS_ok {α : Type} (v : α → D) (xs : List α) (S : List MO) : compS xs (fun a _ S => Res.ok (some (v a)) S) S = .ok (xs.map v) S := by
  induction xs generalizing S with
  | nil => rfl
  | cons d ds ih => simp only [compS, bind_app, noX_ok (m := fun S => Res.ok (some (v d)) S) (S := S) rfl, then_ok, ih]; rfl
theorem compS_if {α : Type} (p : α → Bool) (v : α → D) (xs : List α) (S : List MO) : compS xs (fun a _ S => if p a = true then Res.ok (some (v a)) S else Res.ok none S) S = .ok ((xs.filter p).map v) S := by
  induction xs generalizing S with
  | nil => rfl
  | cons d ds ih =>
    cases h : p d with
    | true =>
      rw [List.filter_cons, if_pos h]
      simp only [compS, bind_app, noX_ok (m := fun S => if p d = true then Res.ok (some (v d)) S else Res.ok none S) (S := S) (S1 := S) (a := some (v d)) (by simp [h]), then_ok, ih]
      rfl
    | false =>
      rw [List.filter_cons, if_neg (by simp [h])]
      simp only [compS, bind_app, noX_ok (m := fun S => if p d = true then Res.ok (some (v d)) S else Res.ok none S) (S := S) (S1 := S) (a := none) (by simp [h]), then_ok, ih]
      rfl
theorem compS_no {α : Type} (xs : List α) (S : List MO) : compS xs (fun a _ S => Res.ok none S) S = .ok [] S := by
  induction xs generalizing S with
  | nil => rfl
  | cons d ds ih => simp only [compS, bind_app, noX_ok (m := fun S => Res.ok (none : Option D) S) (S := S) rfl, then_ok, ih]; rfl
/-- the same without what a turn knows -/
def comp0 {α : Type} (f : α → List MO → Res (Option D)) : List α → M (List D)
  | [] => pure []
  | a :: as => noX (α := Option D) (f a) >>= fun o => comp0 f as >>= fun rs => pure (o.toList ++ rs)
theorem compS_0 {α : Type} (g : α → List MO → Res (Option D)) : ∀ (xs : List α) (f : (a : α) → a ∈ xs → List MO → Res (Option D)), (∀ a h, f a h = g a) → compS xs f = comp0 g xs
  | [], _, _ => rfl
  | a :: as, f, h => by
    simp only [compS, comp0]
    rw [h a, compS_0 g as (fun b hb => f b (List.mem_cons_of_mem _ hb)) fun b hb => h b _]
/-- a turn knows that its item is one of those walked -/
def compCS {α : Type} : (xs : List α) → ((a : α) → a ∈ xs → List MO → Res (List D)) → M (List D)
  | [], _ => pure []
  | a :: as, f => noX (α := List D) (f a List.mem_cons_self) >>= fun o => compCS as (fun b hb => f b (List.mem_cons_of_mem _ hb)) >>= fun rs => pure (o ++ rs)
theorem compC_S (f : D → M (List D)) (xs : List D) : compC f xs = compCS xs (fun a _ S => f a S) := by
  induction xs with
  | nil => rfl
  | cons d ds ih => simp only [compC, compCS, ih]
theorem compCS_map {α β : Type} (e : α → β) (xs : List α) (f : (b : β) → b ∈ xs.map e → List MO → Res (List D)) : compCS (xs.map e) f = compCS xs (fun a h S => f (e a) (List.mem_map_of_mem h) S) := by
  induction xs with
  | nil => rfl
  | cons d ds ih => exact congrArg (fun m : M (List D) => noX (α := List D) (f (e d) List.mem_cons_self) >>= fun o => m >>= fun rs => pure (o ++ rs)) (ih fun b hb => f b (List.mem_cons_of_mem _ hb))
theorem compCS_nil {α : Type} (f : (a : α) → a ∈ [] → List MO → Res (List D)) (S : List MO) : compCS [] f S = .ok [] S := (rfl)
theorem compCS_ok {α : Type} (v : α → List D) (xs : List α) (S : List MO) : compCS xs (fun a _ S => Res.ok (v a) S) S = .ok (xs.flatMap v) S := by
  induction xs generalizing S with
  | nil => rfl
  | cons d ds ih => simp only [compCS, bind_app, noX_ok (m := fun S => Res.ok (v d) S) (S := S) rfl, then_ok, ih]; rfl
theorem flat_map1 {α β γ : Type} (xs : List α) (ys : α → List β) (e : β → γ) : xs.flatMap (fun a => (ys a).map e) = (xs.flatMap ys).map e := (List.map_flatMap).symm
/-- a turn knows that its item is one of those walked -/
def compPS {α : Type} : (xs : List α) → ((a : α) → a ∈ xs → List MO → Res (Option (Key × D))) → M (List (Key × D))
  | [], _ => pure []
  | a :: as, f => noX (α := Option (Key × D)) (f a List.mem_cons_self) >>= fun o => compPS as (fun b hb => f b (List.mem_cons_of_mem _ hb)) >>= fun rs => pure (o.toList ++ rs)
theorem compP_S (f : D → M (Option (Key × D))) (xs : List D) : compP f xs = compPS xs (fun a _ S => f a S) := by
  induction xs with
  | nil => rfl
  | cons d ds ih => simp only [compP, compPS, ih]
theorem compPS_map {α β : Type} (e : α → β) (xs : List α) (f : (b : β) → b ∈ xs.map e → List MO → Res (Option (Key × D))) : compPS (xs.map e) f = compPS xs (fun a h S => f (e a) (List.mem_map_of_mem h) S) := by
  induction xs with
  | nil => rfl
  | cons d ds ih => exact congrArg (fun m : M (List (Key × D)) => noX (α := Option (Key × D)) (f (e d) List.mem_cons_self) >>= fun o => m >>= fun rs => pure (o.toList ++ rs)) (ih fun b hb => f b (List.mem_cons_of_mem _ hb))
theorem compPS_ok {α : Type} (k : α → Key) (v : α → D) (xs : List α) (S : List MO) : compPS xs (fun a _ S => Res.ok (some (k a, v a)) S) S = .ok (xs.map fun a => (k a, v a)) S := by
  induction xs generalizing S with
  | nil => rfl
  | cons d ds ih => simp only [compPS, bind_app, noX_ok (m := fun S => Res.ok (some (k d, v d)) S) (S := S) rfl, then_ok, ih]; rfl
section
variable {α : Type} (a b : Bool) (S : List MO)
theorem col_af : (if a = true then Res.ok (D.bl b) S else Res.ok (D.bl false) S) = .ok (.bl (a && b)) S := by cases a <;> rfl
theorem col_at : (if a = true then Res.ok (D.bl b) S else Res.ok (D.bl true) S) = .ok (.bl (!a || b)) S := by cases a <;> simp
theorem col_ta : (if a = true then Res.ok (D.bl true) S else Res.ok (D.bl b) S) = .ok (.bl (a || b)) S := by cases a <;> rfl
theorem col_fa : (if a = true then Res.ok (D.bl false) S else Res.ok (D.bl b) S) = .ok (.bl (!a && b)) S := by cases a <;> rfl
theorem bol_af : (if a = true then Res.ok b S else Res.ok false S) = .ok (a && b) S := by cases a <;> rfl
theorem bol_ta : (if a = true then Res.ok true S else Res.ok b S) = .ok (a || b) S := by cases a <;> rfl
theorem bol_fa : (if a = true then Res.ok false S else Res.ok b S) = .ok (!a && b) S := by cases a <;> rfl
theorem bol_at : (if a = true then Res.ok b S else Res.ok true S) = .ok (!a || b) S := by cases a <;> simp
end
theorem rt_col (a b : Bool) (S : List MO) : (if a = true then Res.ok (Fl.rt (.bl false)) S else Res.ok (Fl.rt (.bl b)) S) = .ok (.rt (.bl (!a && b))) S := by cases a <;> rfl
theorem rt_colT (a b : Bool) (S : List MO) : (if a = true then Res.ok (Fl.rt (.bl true)) S else Res.ok (Fl.rt (.bl b)) S) = .ok (.rt (.bl (a || b))) S := by cases a <;> rfl
theorem ite_then {α β : Type} {c : Prop} [Decidable c] (r r' : Res α) (f : α → M β) : (if c then r else r').andThen f = if c then r.andThen f else r'.andThen f := by split <;> rfl
theorem bools_map {α : Type} (p : α → Bool) : ∀ xs : List α, boolsOf (xs.map fun x => D.bl (p x)) = some (xs.map p)
  | [] => rfl
  | x :: xs => by show (boolsOf (xs.map _)).map (p x :: ·) = _; rw [bools_map p xs]; rfl
theorem all_ids {α : Type} (p : α → Bool) (xs : List α) : (xs.map p).all id = xs.all p := by rw [List.all_map]; rfl
theorem any_ids {α : Type} (p : α → Bool) (xs : List α) : (xs.map p).any id = xs.any p := by rw [List.any_map]; rfl
theorem allD_map {α : Type} (S : List MO) (p : α → Bool) (xs : List α) : allD S [.lst (xs.map fun x => D.bl (p x))] = some (.bl (xs.all p)) := by
  rw [allD_1, listOf_lst, obind_some, bools_map]
  show some (D.bl ((xs.map p).all id)) = _
  rw [all_ids]
theorem anyD_map {α : Type} (S : List MO) (p : α → Bool) (xs : List α) : anyD S [.lst (xs.map fun x => D.bl (p x))] = some (.bl (xs.any p)) := by
  rw [anyD_1, listOf_lst, obind_some, bools_map]
  show some (D.bl ((xs.map p).any id)) = _
  rw [any_ids]
theorem allD_nil (S : List MO) : allD S [.lst []] = some (.bl true) := (rfl)
theorem allD_flatM {α β : Type} (S : List MO) (p : α → β → Bool) (ys : α → List β) (xs : List α) : allD S [.lst (xs.flatMap fun x => (ys x).map fun y => D.bl (p x y))] = some (.bl (xs.all fun x => (ys x).all (p x))) := by
  have e : (xs.flatMap fun x => (ys x).map fun y => D.bl (p x y)) = (xs.flatMap fun x => (ys x).map (p x)).map D.bl := by
    rw [List.map_flatMap]
    simp only [List.map_map]
    rfl
  rw [e, show ((xs.flatMap fun x => (ys x).map (p x)).map D.bl) = ((xs.flatMap fun x => (ys x).map (p x)).map fun b => D.bl b) from rfl, allD_map]
  simp only [List.all_flatMap, List.all_map]
  rfl
def Inj {α β : Type} (e : α → β) : Prop := ∀ a b, e a = e b → a = b
section
variable {α β γ δ ε ζ : Type} {e : α → D} {e2 : β → D} {e3 : γ → D} {e4 : δ → D} {e5 : ε → D} {e6 : ζ → D}
theorem inj1 (i : Inj e) : Inj (fun a => [e a]) := fun a b h => by simp only [List.cons.injEq, and_true] at h; exact i _ _ h
theorem inj2 (i : Inj e) (i2 : Inj e2) : Inj (fun p : α × β => [e p.1, e2 p.2]) := fun (a, b) (c, d) h => by
  simp only [List.cons.injEq, and_true] at h; rw [i _ _ h.1, i2 _ _ h.2]
end
theorem inj_D : Inj (fun d : D => d) := fun _ _ h => h
theorem inj_of {α : Type} {e : α → D} {f : D → Option α} (h : ∀ a, f (e a) = some a) : Inj e := fun a b q => by
  have := h a
  rw [q, h b] at this
  exact (Option.some.inj this).symm
theorem inj_map {α β : Type} {e : α → β} (i : Inj e) : Inj (List.map e) := fun a b h => by
  induction a generalizing b with
  | nil => cases b with
    | nil => rfl
    | cons _ _ => cases h
  | cons x xs ih => cases b with
    | nil => cases h
    | cons y ys =>
      simp only [List.map_cons, List.cons.injEq] at h
      rw [i _ _ h.1, ih _ h.2]
theorem inB_nats (S : List MO) (k : Nat) (xs : List Nat) : inB S (.int (k : Nat)) (.tup (xs.map eN)) = some (decide (k ∈ xs)) := by
  have e : inB S (.int (k : Nat)) (.tup (xs.map eN)) = if (true && (xs.map eN).all flD) = true then some ((xs.map eN).any fun z => eqF z (.int (k : Nat))) else none := rfl
  have h : (xs.map eN).all flD = true := by rw [List.all_map]; exact List.all_eq_true.mpr fun _ _ => rfl
  rw [e, h, if_pos (by rfl), List.any_map]
  congr 1
  rw [Bool.eq_iff_iff, List.any_eq_true, decide_eq_true_eq]
  constructor
  · rintro ⟨x, hx, q⟩
    have q : ((x : Int) == (k : Int)) = true := q
    have : x = k := by have := eq_of_beq q; omega
    rw [← this]; exact hx
  · intro h
    exact ⟨k, h, by show ((k : Int) == (k : Int)) = true; simp⟩
theorem inB_strs (S : List MO) (k : Str) (xs : List Str) : inB S (.str k) (.tup (xs.map eNm)) = some (decide (k ∈ xs)) := by
  have e : inB S (.str k) (.tup (xs.map eNm)) = if (true && (xs.map eNm).all flD) = true then some ((xs.map eNm).any fun z => eqF z (.str k)) else none := rfl
  have h : (xs.map eNm).all flD = true := by rw [List.all_map]; exact List.all_eq_true.mpr fun _ _ => rfl
  rw [e, h, if_pos (by rfl), List.any_map]
  congr 1
  rw [Bool.eq_iff_iff, List.any_eq_true, decide_eq_true_eq]
  constructor
  · rintro ⟨x, hx, q⟩
    have q : (x == k) = true := q
    rw [← eq_of_beq q]; exact hx
  · intro h
    exact ⟨k, h, by show (k == k) = true; exact beq_self_eq_true k⟩
theorem dinD_s (S : List MO) (x : Str) (ks : List Key) (vs : List D) : dinD S (.str x) (.dk ks vs) = some (.bl (valD ks vs (Sum.inr x)).isSome) := (rfl)
theorem dinD_i (S : List MO) (x : Int) (ks : List Key) (vs : List D) : dinD S (.int x) (.dk ks vs) = some (.bl (valD ks vs (Sum.inl x)).isSome) := (rfl)
theorem ixDD_dks (S : List MO) (x : Str) (ks : List Key) (vs : List D) : ixDD S (.dk ks vs) (.str x) = valD ks vs (Sum.inr x) := (rfl)
theorem ixDD_dki (S : List MO) (x : Int) (ks : List Key) (vs : List D) : ixDD S (.dk ks vs) (.int x) = valD ks vs (Sum.inl x) := (rfl)
theorem ixDD_lst (S : List MO) (xs : List D) (i : Int) : ixDD S (.lst xs) (.int i) = ixD S (.lst xs) (.int i) := (rfl)
theorem atI_n {α : Type} (xs : List α) (i : Nat) : atI xs ((i : Nat) : Int) = xs[i]? := by
  by_cases h : i < xs.length
  · exact atI_get xs i h
  · unfold atI ixN
    rw [List.getElem?_eq_none (Nat.not_lt.mp h)]
    rw [if_pos (by omega), if_neg (by omega)]
    rfl
theorem strsOf_eNm (ss : List Str) : strsOf (ss.map eNm) = some ss := by
  induction ss with
  | nil => rfl
  | cons s ss ih => show (strsOf (ss.map eNm)).map (s :: ·) = _; rw [ih]; rfl
theorem findS_idx (z : Str) : ∀ ss : List Str, z ∈ ss → findS z ss = some (ss.idxOf z)
  | [], h => by cases h
  | s :: ss, h => by
    unfold findS
    by_cases e : s = z
    · rw [if_pos e, e]; simp
    · rw [if_neg e, findS_idx z ss ((List.mem_cons.mp h).resolve_left fun q => e q.symm), List.idxOf_cons, beq_eq_false_iff_ne.mpr e]
      rfl
theorem idxTD_m (S : List MO) (ss : List Str) (z : Str) (h : z ∈ ss) : idxTD S (.tup (ss.map eNm)) [.str z] = some (.int (ss.idxOf z : Nat)) := by
  rw [idxTD_1, strsOf_eNm, Option.bind_some, findS_idx z ss h]; rfl
theorem flat_rep1 {α : Type} (n : Nat) (x : α) : (List.replicate n [x]).flatten = List.replicate n x := by
  induction n with
  | zero => rfl
  | succ n ih => rw [List.replicate_succ, List.flatten_cons, ih]; rfl
theorem mulTD_1 (S : List MO) (x : D) (n : Nat) (h : n ≤ 1000) : mulTD S (.tup [x]) (.int (n : Nat)) = some (.tup (List.replicate n x)) := by
  rw [mulTD_t, if_pos ⟨by omega, by omega, by simp⟩, Int.toNat_natCast, flat_rep1]
theorem cutL_hi {α : Type} (xs : List α) (n : Nat) : cutL xs none (some (n : Nat)) = xs.take n := by
  have e : cutL xs none (some (n : Nat)) = (xs.drop 0).take ((if ((n : Nat) : Int) < 0 then (((n : Nat) : Int) + xs.length).toNat else min ((n : Nat) : Int).toNat xs.length) - 0) := rfl
  rw [e, if_neg (by omega), List.drop_zero, Nat.sub_zero, Int.toNat_natCast]
  by_cases h : n ≤ xs.length
  · rw [Nat.min_eq_left h]
  · rw [Nat.min_eq_right (by omega), List.take_of_length_le (Nat.le_refl _), List.take_of_length_le (by omega)]
theorem cutL_lo {α : Type} (xs : List α) (n : Nat) : cutL xs (some (n : Nat)) none = xs.drop n := by
  have e : cutL xs (some (n : Nat)) none = (xs.drop (if ((n : Nat) : Int) < 0 then (((n : Nat) : Int) + xs.length).toNat else min ((n : Nat) : Int).toNat xs.length)).take (xs.length - (if ((n : Nat) : Int) < 0 then (((n : Nat) : Int) + xs.length).toNat else min ((n : Nat) : Int).toNat xs.length)) := rfl
  rw [e, if_neg (by omega), Int.toNat_natCast]
  by_cases h : n ≤ xs.length
  · rw [Nat.min_eq_left h, List.take_of_length_le (by simp)]
  · rw [Nat.min_eq_right (by omega), List.drop_eq_nil_of_le (Nat.le_refl _), List.drop_eq_nil_of_le (by omega)]; simp
structure EqE {α : Type} [DecidableEq α] (k : Nat) (e : α → D) : Prop where
  data : ∀ n a, D.data (n + k) (e a) = true
  eq : ∀ a b, eqG (e a) (e b) = decide (a = b)
theorem eqE_nat : EqE 0 eN := ⟨fun n a => by cases n <;> rfl, fun a b => by
  show ((a : Int) == (b : Int)) = _
  by_cases h : a = b
  · subst h; simp
  · have : ¬ (a : Int) = (b : Int) := by omega
    simp [h, this]⟩
theorem eqGs_map {α : Type} [DecidableEq α] {e : α → D} (h : ∀ a b, eqG (e a) (e b) = decide (a = b)) : ∀ xs ys : List α, eqGs (xs.map e) (ys.map e) = decide (xs = ys)
  | [], [] => by rw [List.map_nil]; unfold eqGs; simp
  | [], y :: ys => by rw [List.map_nil, List.map_cons]; unfold eqGs; simp
  | x :: xs, [] => by rw [List.map_nil, List.map_cons]; unfold eqGs; simp
  | x :: xs, y :: ys => by
    rw [List.map_cons, List.map_cons]; unfold eqGs
    rw [h, eqGs_map h xs ys]
    by_cases e1 : x = y <;> by_cases e2 : xs = ys <;> simp [e1, e2]
theorem eqE_tup {α : Type} [DecidableEq α] {k : Nat} {e : α → D} (h : EqE k e) : EqE (k + 1) (fun xs : List α => D.tup (xs.map e)) :=
  ⟨fun n xs => dataAll_map (h.data n) xs, fun xs ys => by show eqG (.tup _) (.tup _) = _; unfold eqG; exact eqGs_map h.eq xs ys⟩
theorem EqE.up {α : Type} [DecidableEq α] {k j : Nat} {e : α → D} (h : EqE k e) (hj : k ≤ j := by decide) : EqE j e := ⟨fun n a => by
  have := h.data (n + (j - k)) a
  rwa [show n + (j - k) + k = n + j by omega] at this, h.eq⟩
theorem EqE.eqB {α : Type} [DecidableEq α] {k : Nat} {e : α → D} (h : EqE k e) (S : List MO) (a b : α) (hk : k ≤ 60 := by decide) : eqB S (e a) (e b) = some (decide (a = b)) := by
  have h1 : D.data 60 (e a) = true := by have := h.data (60 - k) a; rwa [Nat.sub_add_cancel hk] at this
  have h2 : D.data 60 (e b) = true := by have := h.data (60 - k) b; rwa [Nat.sub_add_cancel hk] at this
  unfold PD.eqB
  rw [resv_data h1, resv_data h2, if_pos ⟨h1, h2⟩, h.eq]
def eTab (t : List (List Nat)) : D := .tup (t.map eNs)
theorem eqE_eNs : EqE 1 eNs := eqE_tup eqE_nat
theorem eqE_tab : EqE 2 eTab := eqE_tup eqE_eNs
theorem eqB_tab (S : List MO) (a b : List (List Nat)) : eqB S (.tup (a.map eNs)) (.tup (b.map eNs)) = some (decide (a = b)) := eqE_tab.eqB S a b
theorem eqB_nats (S : List MO) (a b : List Nat) : eqB S (.tup (a.map eN)) (.tup (b.map eN)) = some (decide (a = b)) := eqE_eNs.eqB S a b
theorem inj_eN : Inj eN := inj_of dN_e
theorem zipD_map {α β : Type} (e : α → D) (e2 : β → D) (xs : List α) (ys : List β) : zipD (xs.map e) (ys.map e2) = (xs.zip ys).map fun p => .tup [e p.1, e2 p.2] := by
  unfold zipD
  rw [List.zip_map, List.map_map]
  rfl
theorem enumD_map {α : Type} (e : α → D) (xs : List α) : enumD (xs.map e) = xs.zipIdx.map fun p => .tup [.int (p.2 : Nat), e p.1] := by
  unfold enumD
  rw [List.zipIdx_map, List.map_map]
  rfl
theorem upD_nat (n : Nat) : upD 0 n = (List.range n).map eN := upD_map n
theorem ninDD_tup (S : List MO) (y : D) (t : List D) : ninDD S y (.tup t) = ninD S y (.tup t) := (rfl)
theorem ninDD_str (S : List MO) (y : D) (t : Str) : ninDD S y (.str t) = ninD S y (.str t) := (rfl)
theorem ninDD_lst (S : List MO) (y : D) (t : List D) : ninDD S y (.lst t) = ninD S y (.lst t) := (rfl)
theorem inDD_lst (S : List MO) (y : D) (t : List D) : inDD S y (.lst t) = inD S y (.lst t) := (rfl)
theorem ninDD_dk (S : List MO) (y : D) (ks : List Key) (vs : List D) : ninDD S y (.dk ks vs) = dninD S y (.dk ks vs) := (rfl)
theorem dninD_s (S : List MO) (x : Str) (ks : List Key) (vs : List D) : dninD S (.str x) (.dk ks vs) = some (.bl (!(valD ks vs (Sum.inr x)).isSome)) := (rfl)
theorem rgD_n (f : List D → D) (n : Nat) (h : n ≤ 1000) : rgD f (.int (n : Nat)) = some (f ((List.range n).map eN)) := by
  rw [rgD_i, if_pos ⟨by omega, by omega⟩, Int.toNat_natCast, upD_nat]
theorem rng1_n (n : Nat) (h : n ≤ 100000) : rng1 [.int (n : Nat)] = pure ((List.range n).map eN) := by
  rw [rng1_i, if_pos ⟨by omega, by omega⟩, Int.toNat_natCast, upD_nat]
theorem tzOf_tz (xs : List D) : tzOf (.tz xs) = some xs := (rfl)
theorem nat_add (a b : Nat) : (a : Int) + (b : Int) = ((a + b : Nat) : Int) := (Int.natCast_add a b).symm
theorem nat_add1 (a : Nat) : (a : Int) + 1 = ((a + 1 : Nat) : Int) := rfl
/-- the lists that comprehensions make, by their parts -/
theorem map_eN {α : Type} (g : α → Nat) (xs : List α) : xs.map (fun x => D.int ((g x : Nat) : Int)) = (xs.map g).map eN := by rw [List.map_map]; rfl
theorem map_eNs {α : Type} (g : α → List Nat) (xs : List α) : xs.map (fun x => D.tup ((g x).map eN)) = (xs.map g).map eNs := by rw [List.map_map]; rfl
def ascG {α : Type} (lt : α → α → Bool) : List α → Bool
  | a :: b :: r => lt a b && ascG lt (b :: r)
  | _ => true
theorem asc_map {α : Type} {lt : α → α → Bool} {e : α → D} (h : ∀ a b, ltB (e a) (e b) = some (lt a b)) : ∀ xs : List α, asc (xs.map e) = some (ascG lt xs)
  | [] => rfl
  | [_] => rfl
  | a :: b :: r => by
    have ih := asc_map h (b :: r)
    unfold asc at ih ⊢
    have e1 : ascBs ((a :: b :: r).map e) = (ltB (e a) (e b)).bind fun k => (ascBs ((b :: r).map e)).map fun t => k :: t := rfl
    rw [e1, h, Option.bind_some]
    rw [Option.map_eq_some_iff] at ih
    obtain ⟨t, h1, h2⟩ := ih
    rw [h1]
    show some ((lt a b :: t).all id) = _
    rw [List.all_cons, h2]; rfl
theorem ascG_pw {α : Type} {lt : α → α → Bool} (tr : ∀ a b c, lt a b = true → lt b c = true → lt a c = true) : ∀ xs : List α, ascG lt xs = true ↔ xs.Pairwise (fun a b => lt a b = true)
  | [] => by simp [ascG]
  | [_] => by simp [ascG]
  | a :: b :: r => by
    have ih := ascG_pw tr (b :: r)
    unfold ascG
    rw [Bool.and_eq_true, ih, List.pairwise_cons (a := a)]
    constructor
    · rintro ⟨h1, h2⟩
      refine ⟨fun x hx => ?_, h2⟩
      rcases List.mem_cons.mp hx with rfl | hx
      · exact h1
      · exact tr _ _ _ h1 ((List.pairwise_cons.mp h2).1 x hx)
    · rintro ⟨h1, h2⟩
      exact ⟨h1 b List.mem_cons_self, h2⟩
def ltN (a b : Nat) : Bool := decide (a < b)
def ltS (a b : Str) : Bool := decide (a.cps.toList < b.cps.toList)
def ltP (a b : Nat × Nat) : Bool := decide (a.1 < b.1) || (decide (a.1 = b.1) && decide (a.2 < b.2))
theorem ltB_nat (a b : Nat) : ltB (eN a) (eN b) = some (ltN a b) := by
  show some (decide ((a : Int) < (b : Int))) = _
  congr 1
  exact decide_eq_decide.mpr (by omega)
theorem ltB_str (a b : Str) : ltB (eNm a) (eNm b) = some (ltS a b) := rfl
theorem ltB_pair (a b : Nat × Nat) : ltB (eNN a) (eNN b) = some (ltP a b) := by
  show some (HT.lexLt [(a.1 : Int), (a.2 : Int)] [(b.1 : Int), (b.2 : Int)]) = _
  congr 1
  unfold ltP
  rw [HT.lexLt_cons, HT.lexLt_cons, HT.lexLt_nil_nil]
  by_cases h1 : a.1 = b.1
  · rw [if_pos (by omega), decide_eq_true h1, decide_eq_false (by omega : ¬ a.1 < b.1), Bool.false_or, Bool.true_and]
    by_cases h2 : a.2 = b.2
    · rw [if_pos (by omega), decide_eq_false (by omega)]
    · rw [if_neg (by omega)]; exact decide_eq_decide.mpr (by omega)
  · rw [if_neg (by omega), decide_eq_false h1, Bool.false_and, Bool.or_false]; exact decide_eq_decide.mpr (by omega)
def ascN : List Nat → Bool := ascG ltN
def ascS : List Str → Bool := ascG ltS
def ascP : List (Nat × Nat) → Bool := ascG ltP
theorem ascN_pw (l : List Nat) : ascN l = true ↔ l.Pairwise (· < ·) := by
  unfold ascN
  rw [ascG_pw (fun a b c h1 h2 => by simp only [ltN, decide_eq_true_eq] at *; omega)]
  simp only [ltN, decide_eq_true_eq]
theorem asc_nats (l : List Nat) : asc (l.map eN) = some (ascN l) := asc_map ltB_nat l
theorem asc_strsG (l : List Str) : asc (l.map eNm) = some (ascS l) := asc_map ltB_str l
theorem asc_pairsG (l : List (Nat × Nat)) : asc (l.map eNN) = some (ascP l) := asc_map ltB_pair l
def belowB (l : List Nat) (n : Nat) : Bool := l.all (fun k => decide (k < n)) && ascN l
def modesB (l : List Nat) (n : Nat) : Bool := belowB l n && !l.isEmpty
theorem areBelow_e (l : List Nat) (n : Nat) : areBelow (eNs l) n = belowB l n := by
  show ((l.map eN).all (fun x => below x n) && (asc (l.map eN)).getD false) = _
  rw [asc_nats, List.all_map]
  show (l.all (fun k => below (eN k) n) && ascN l) = _
  simp only [below_e]
  rfl
theorem modeSet_e (l : List Nat) (n : Nat) : modeSet (eNs l) n = modesB l n := by
  show (areBelow (eNs l) n && !(l.map eN).isEmpty) = _
  rw [areBelow_e]
  unfold modesB
  cases l <;> rfl
def pairsB (l : List (Nat × Nat)) (m n : Nat) : Bool := l.all (fun p => decide (p.1 < m) && decide (p.2 < n)) && ascP l
theorem arePairs_e (l : List (Nat × Nat)) (m n : Nat) : arePairs (ePs l) m n = pairsB l m n := by
  show ((l.map eNN).all isPair && ((l.map eNN).all (pairBelow m n) && (asc (l.map eNN)).getD false)) = _
  rw [asc_pairsG, List.all_map, List.all_map]
  have h1 : l.all (isPair ∘ eNN) = true := List.all_eq_true.mpr fun p _ => rfl
  rw [h1, Bool.true_and]
  show (l.all (fun p => below (eN p.1) m && below (eN p.2) n) && ascP l) = _
  simp only [below_e]
  rfl
def ansB (a : Ans) (n : Nat) : Bool := isNameS a.sig && (isNameS a.to && (pairsB a.un 4 n && ascN (a.un.map (·.1))))
theorem isAns_e (a : Ans) (n : Nat) : isAns (eAns a) n = ansB a n := by
  show (isNameS a.sig && (isNameS a.to && (arePairs (ePs a.un) ((4 : Nat) : Int) n && (asc ((a.un.map eNN).map fst2)).getD false))) = _
  rw [arePairs_e]
  have e : (a.un.map eNN).map fst2 = (a.un.map (·.1)).map eN := by rw [List.map_map, List.map_map]; rfl
  rw [e, asc_nats]; rfl
def anssB (l : List Ans) (n : Nat) : Bool := l.all (fun a => ansB a n) && ascS (l.map (·.sig))
theorem areAns_e (l : List Ans) (n : Nat) : areAns (eAs l) n = anssB l n := by
  show ((l.map eAns).all (fun x => isAns x n) && (asc ((l.map eAns).map fst2)).getD false) = _
  have e : (l.map eAns).map fst2 = (l.map (·.sig)).map eNm := by rw [List.map_map, List.map_map]; rfl
  rw [e, asc_strsG, List.all_map]
  show (l.all (fun a => isAns (eAns a) n) && ascS (l.map (·.sig))) = _
  simp only [isAns_e]
  rfl
def mvB (m : Mv) (n : Nat) : Bool := match m with
  | .go a b ps => decide (a < n) && (decide (b < n) && (!ps.isEmpty && pairsB ps 4 4))
  | .call a b q s w => decide (a < n) && (decide (b < n) && (isNameS q && (modesB s 4 && anssB w n)))
  | .raise a b g s => decide (a < n) && (decide (b < n) && (isNameS g && modesB s 4))
  | .leave a s => decide (a < n) && modesB s 4
theorem isMove_e (m : Mv) (n : Nat) : isMove (eMv m) n = mvB m n := by
  cases m with
  | go a b ps =>
    show (tagS (.str "go") "go" && goB (eN a) (eN b) (ePs ps) n) = _
    have t : tagS (.str "go") "go" = true := by decide +kernel
    rw [t, Bool.true_and]
    show (below (eN a) n && (below (eN b) n && (!(ps.map eNN).isEmpty && arePairs (ePs ps) ((4 : Nat) : Int) ((4 : Nat) : Int)))) = _
    rw [below_e, below_e, arePairs_e]
    cases ps <;> rfl
  | call a b q s w =>
    show (tagS (.str "call") "call" && callB (eN a) (eN b) (.str q) (eNs s) (eAs w) n) = _
    have t : tagS (.str "call") "call" = true := by decide +kernel
    rw [t, Bool.true_and]
    show (below (eN a) n && (below (eN b) n && (isNameS q && (modeSet (eNs s) ((4 : Nat) : Int) && areAns (eAs w) n)))) = _
    rw [below_e, below_e, modeSet_e, areAns_e]; rfl
  | raise a b g s =>
    show (tagS (.str "raise") "raise" && raiseB (eN a) (eN b) (.str g) (eNs s) n) = _
    have t : tagS (.str "raise") "raise" = true := by decide +kernel
    rw [t, Bool.true_and]
    show (below (eN a) n && (below (eN b) n && (isNameS g && modeSet (eNs s) ((4 : Nat) : Int)))) = _
    rw [below_e, below_e, modeSet_e]; rfl
  | leave a s =>
    show (tagS (.str "leave") "leave" && leaveB (eN a) (eNs s) n) = _
    have t : tagS (.str "leave") "leave" = true := by decide +kernel
    rw [t, Bool.true_and]
    show (below (eN a) n && modeSet (eNs s) ((4 : Nat) : Int)) = _
    rw [below_e, modeSet_e]; rfl
theorem ascN_len {l : List Nat} {n : Nat} (h : belowB l n = true) : l.length ≤ n := by
  unfold belowB at h
  rw [Bool.and_eq_true, List.all_eq_true, ascN_pw] at h
  obtain ⟨h1, h2⟩ := h
  have : ∀ (l : List Nat) (k : Nat), l.Pairwise (· < ·) → (∀ x ∈ l, k ≤ x ∧ x < n) → l.length ≤ n - k := by
    intro l
    induction l with
    | nil => intro k _ _; simp
    | cons x xs ih =>
      intro k h q
      rw [List.pairwise_cons] at h
      have hx := q x List.mem_cons_self
      have := ih (x + 1) h.2 fun y hy => ⟨h.1 y hy, (q y (List.mem_cons_of_mem _ hy)).2⟩
      simp only [List.length_cons]
      omega
  have := this l 0 h2 fun x hx => ⟨Nat.zero_le _, of_decide_eq_true (h1 x hx)⟩
  omega
def sigsOk (l : List Str) : Bool := decide (l.length ≤ 3) && (l.all isNameS && (asc (l.map eNm)).getD false)
def smallPs (ps : List Pr) : Prop := ps.length ≤ 100 ∧ ∀ p ∈ ps, p.moves.length ≤ 12 ∧ ∀ m ∈ p.moves, small m = true
def movesOf (ps : List Pr) : List Mv := ps.flatMap (·.moves)
def procsB (ps : List Pr) (m : Nat) (ss : List Str) : Bool := decide (0 < ps.length) && (decide (ps.length ≤ 9) && (decide ((ps.map (·.name)).Nodup) && (((movesOf ps).flatMap namesOf).all (fun x => decide (x ∈ ps.map (·.name))) &&
  (((movesOf ps).flatMap sigsOf).all (fun x => decide (x ∈ ss)) && ((movesOf ps).flatMap modesOf).all (fun x => decide (x < m))))))
def mkPg (m : Nat) (st : List Nat) (ss : List Str) (ps : List Pr) : Pg := ⟨m, st, ss, ps, .dk [] []⟩
def pgB (m : Nat) (st : List Nat) (ss : List Str) (ps : List Pr) : Bool := (decide (0 < m) && (decide (m ≤ 4) && modesB st m)) && (sigsOk ss && procsB ps m ss)
def tsz (g : Pg) : Nat := g.signals.length * g.modes
def tabOk (g : Pg) (t : List (List Nat)) : Bool := decide (t.length = tsz g) && t.all fun e => belowB e g.modes
structure PgOk (g : Pg) : Prop where
  modes : g.modes ≤ 4
  sigs : g.signals.length ≤ 3
theorem PgOk.m {g : Pg} (h : PgOk g) : g.modes ≤ 1000 := Nat.le_trans h.modes (by decide)
theorem PgOk.sz {g : Pg} (h : PgOk g) : tsz g ≤ 12 := Nat.mul_le_mul h.sigs h.modes
def place (g : Pg) (s : Str) (k : Nat) : Nat := g.signals.idxOf s * g.modes + k
/-- a place of a table -/
structure PlOk (c : Cs) (g : Pg) (t : List (List Nat)) (s : Str) (k : Nat) : Prop where
  pg : c.Program ∈ c.all
  ok : PgOk g
  tab : tabOk g t = true
  sig : s ∈ g.signals
  mode : k < g.modes
def Ret {α : Type} (r : Res α) (Q : α → List MO → Prop) : Prop := match r with
  | .ok a S => Q a S
  | _ => False
theorem Ret_ok {α : Type} (a : α) (S : List MO) (Q : α → List MO → Prop) : Ret (.ok a S) Q = Q a S := (rfl)
theorem Ret_then {α β : Type} (r : Res α) (f : α → M β) (Q : β → List MO → Prop) : Ret (r.andThen f) Q = Ret r fun a S => Ret (f a S) Q := by cases r <;> rfl
theorem Ret.mono {α : Type} {r : Res α} {Q R : α → List MO → Prop} (h : Ret r Q) (i : ∀ a S, Q a S → R a S) : Ret r R := by
  cases r with
  | ok a S => exact i a S h
  | exc _ _ _ => exact h.elim
  | bad => exact h.elim
theorem Ret.eq {α : Type} {r : Res α} {Q : α → List MO → Prop} (h : Ret r Q) : ∃ a S, r = .ok a S ∧ Q a S := by
  cases r with
  | ok a S => exact ⟨a, S, rfl, h⟩
  | exc _ _ _ => exact h.elim
  | bad => exact h.elim
theorem Ret.of_eq {α : Type} {r : Res α} {a : α} {S : List MO} {Q : α → List MO → Prop} (e : r = .ok a S) (h : Q a S) : Ret r Q := by rw [e]; exact h
/-- a mirror by its promise: from P on, some end with Q -/
noncomputable def spc (den : List D → M D) (P : List D → List MO → Prop) (Q : List D → List MO → D → List MO → Prop) (ds : List D) : M D := fun S =>
  open Classical in if h : P ds S ∧ ∃ r, Ret r (Q ds S) ∧ Le S.length r (den ds S) then h.2.choose else .bad
theorem spc_le {den : List D → M D} {P : List D → List MO → Prop} {Q : List D → List MO → D → List MO → Prop} {ds : List D} {S : List MO} : Le S.length (spc den P Q ds S) (den ds S) := by
  unfold spc
  split
  · rename_i h; exact h.2.choose_spec.2
  · exact .bad
theorem spc_ret {den : List D → M D} {P : List D → List MO → Prop} {Q : List D → List MO → D → List MO → Prop} {ds : List D} {S : List MO} (hp : P ds S) (h : Ret (den ds S) fun d' S'' => ∃ d S', Q ds S d S' ∧ Le S.length (.ok d S') (.ok d' S'')) : Ret (spc den P Q ds S) (Q ds S) := by
  obtain ⟨d', S'', e, d, S', q, l⟩ := h.eq
  have hx : P ds S ∧ ∃ r, Ret r (Q ds S) ∧ Le S.length r (den ds S) := ⟨hp, .ok d S', q, by rw [e]; exact l⟩
  unfold spc
  rw [dif_pos hx]
  exact hx.2.choose_spec.1
theorem forM_ret {g : D → Rho → M Rho} {body : Rho → M Fl} {Q : Fl → List MO → Prop} (I : Nat → Rho → List MO → Prop) : ∀ (ds : List D) (k : Nat) (ρ : Rho) (S : List MO), I k ρ S →
    (∀ i d ρ S, ds[i]? = some d → I (k + i) ρ S → Ret ((g d ρ >>= body) S) fun fl S' => match fl with
      | .nx ρ' => I (k + i + 1) ρ' S'
      | .ct ρ' => I (k + i + 1) ρ' S'
      | .bk ρ' => Q (.nx ρ') S'
      | .rt d => Q (.rt d) S') →
    (∀ ρ S, I (k + ds.length) ρ S → Q (.nx ρ) S) → Ret (forM g body ds ρ S) Q
  | [], k, ρ, S, i0, _, fin => fin ρ S i0
  | d :: ds, k, ρ, S, i0, st, fin => by
    have e : forM g body (d :: ds) ρ = (g d ρ >>= body) >>= fun fl => match fl with
      | .nx ρ2 => forM g body ds ρ2
      | .ct ρ2 => forM g body ds ρ2
      | .bk ρ2 => pure (.nx ρ2)
      | .rt d => pure (.rt d) := by rw [bind_assoc']; rfl
    rw [e, bind_app, Ret_then]
    have h := st 0 d ρ S rfl i0
    refine h.mono fun fl S' h => ?_
    have rest : ∀ ρ' S', I (k + 1) ρ' S' → Ret (forM g body ds ρ' S') Q := fun ρ' S' h => forM_ret I ds (k + 1) ρ' S' h (fun i d ρ S hd hi => by
        have := st (i + 1) d ρ S (by simpa using hd) (by rw [show k + (i + 1) = k + 1 + i by omega]; exact hi)
        rw [show k + 1 + i + 1 = k + (i + 1) + 1 by omega]
        exact this) (fun ρ S hi => fin ρ S (by rw [List.length_cons, show k + (ds.length + 1) = k + 1 + ds.length by omega]; exact hi))
    cases fl with
    | nx ρ' => exact rest ρ' S' h
    | ct ρ' => exact rest ρ' S' h
    | bk ρ' => exact h
    | rt d => exact h
/-- a loop whose turns all go on, over laid items: the items walked so far are told -/
theorem forM_all {α : Type} {g : D → Rho → M Rho} {body : Rho → M Fl} {Q : Fl → List MO → Prop} (e : α → D) (xs : List α) (I : List α → Rho → List MO → Prop) {ρ : Rho} {S : List MO} (i0 : I [] ρ S)
    (st : ∀ pre x post, xs = pre ++ x :: post → ∀ ρ S, I pre ρ S → Ret ((g (e x) ρ >>= body) S) fun fl S' => ∃ ρ', fl = .nx ρ' ∧ I (pre ++ [x]) ρ' S')
    (fin : ∀ ρ S, I xs ρ S → Q (.nx ρ) S) : Ret (forM g body (xs.map e) ρ S) Q := by
  refine forM_ret (fun k ρ S => I (xs.take k) ρ S) (xs.map e) 0 ρ S (by rw [List.take_zero]; exact i0) (fun i d ρ S hd hi => ?_) (fun ρ S hi => fin ρ S ?_)
  · rw [Nat.zero_add] at hi ⊢
    rw [List.getElem?_map, Option.map_eq_some_iff] at hd
    obtain ⟨x, hx, rfl⟩ := hd
    have hl : i < xs.length := (List.getElem?_eq_some_iff.mp hx).1
    have hg : xs[i] = x := (List.getElem?_eq_some_iff.mp hx).2
    have e1 : xs = xs.take i ++ x :: xs.drop (i + 1) := by rw [← hg, List.getElem_cons_drop, List.take_append_drop]
    refine (st (xs.take i) x (xs.drop (i + 1)) e1 ρ S hi).mono fun fl S' ⟨ρ', e2, h⟩ => ?_
    subst e2
    show I (xs.take (i + 1)) ρ' S'
    rw [List.take_add_one, List.getElem?_eq_getElem hl, hg]
    exact h
  · rw [Nat.zero_add, List.length_map, List.take_length] at hi; exact hi
inductive All2 {α β : Type} (P : α → β → Prop) : List α → List β → Prop
  | nil : All2 P [] []
  | cons {a : α} {b : β} {as : List α} {bs : List β} : P a b → All2 P as bs → All2 P (a :: as) (b :: bs)
theorem All2.length {α β : Type} {P : α → β → Prop} : ∀ {as : List α} {bs : List β}, All2 P as bs → as.length = bs.length
  | _, _, .nil => rfl
  | _, _, .cons _ t => congrArg (· + 1) (All2.length t)
theorem All2.mem {α β : Type} {P : α → β → Prop} : ∀ {as : List α} {bs : List β}, All2 P as bs → ∀ b ∈ bs, ∃ a ∈ as, P a b
  | _, _, .nil, b, h => by cases h
  | _, _, .cons p t, b, h => by
    rcases List.mem_cons.mp h with rfl | h
    · exact ⟨_, List.mem_cons_self, p⟩
    · obtain ⟨a, ha, q⟩ := All2.mem t b h; exact ⟨a, List.mem_cons_of_mem _ ha, q⟩
/-- a comprehension by an invariant over what is walked and what is laid so far -/
theorem comp0_inv {α β : Type} {f : α → List MO → Res (Option D)} {Q : List D → List MO → Prop} (out : β → D) (I : List α → List β → List MO → Prop) (xs : List α) {S : List MO} (i0 : I [] [] S)
    (st : ∀ pre a post, xs = pre ++ a :: post → ∀ bs S, I pre bs S → Ret (f a S) fun o S' => ∃ b : Option β, o = b.map out ∧ I (pre ++ [a]) (bs ++ b.toList) S')
    (fin : ∀ bs S', I xs bs S' → Q (bs.map out) S') : Ret (comp0 f xs S) Q := by
  have go : ∀ (post pre : List α) (bs : List β) (S : List MO), xs = pre ++ post → I pre bs S → Ret (comp0 f post S) fun rs S' => ∃ cs : List β, rs = cs.map out ∧ I xs (bs ++ cs) S' := by
    intro post
    induction post with
    | nil => intro pre bs S e i; rw [List.append_nil] at e; subst e; exact ⟨[], rfl, by rw [List.append_nil]; exact i⟩
    | cons a post ih =>
      intro pre bs S e i
      obtain ⟨o, S1, e1, b, rfl, i1⟩ := (st pre a post e bs S i).eq
      simp only [comp0, bind_app, noX_ok e1, then_ok, Ret_then]
      refine (ih (pre ++ [a]) (bs ++ b.toList) S1 (by rw [e, List.append_assoc]; rfl) i1).mono fun rs S' ⟨cs, e2, i2⟩ => ?_
      show ∃ cs : List β, (b.map out).toList ++ rs = cs.map out ∧ I xs (bs ++ cs) S'
      refine ⟨b.toList ++ cs, ?_, by rw [← List.append_assoc]; exact i2⟩
      rw [e2, List.map_append]
      cases b <;> rfl
  exact (go xs [] [] S rfl i0).mono fun rs S' ⟨cs, e, i⟩ => by rw [e]; exact fin cs S' i
theorem compS_inv {α β : Type} {Q : List D → List MO → Prop} (out : β → D) (I : List α → List β → List MO → Prop) (xs : List α) {f : (a : α) → a ∈ xs → List MO → Res (Option D)} {S : List MO} (i0 : I [] [] S)
    (st : ∀ pre a post, (e : xs = pre ++ a :: post) → ∀ bs S, I pre bs S → Ret (f a (e ▸ List.mem_append_right _ List.mem_cons_self) S) fun o S' => ∃ b : Option β, o = b.map out ∧ I (pre ++ [a]) (bs ++ b.toList) S')
    (fin : ∀ bs S', I xs bs S' → Q (bs.map out) S') : Ret (compS xs f S) Q := by
  have hg : ∀ a h, f a h = (open Classical in if h : a ∈ xs then f a h else fun _ => .bad) := fun a h => (dif_pos h).symm
  rw [compS_0 _ xs f hg]
  refine comp0_inv out I xs i0 (fun pre a post e bs S i => ?_) fin
  have := st pre a post e bs S i
  rw [hg] at this
  exact this
noncomputable def dmir {α : Type} (es : α → List D) (den : List D → M D) (pre : α → List MO → Prop) (post : α → List MO → D → List MO → Prop) : List D → M D :=
  spc den (fun ds S => SCl S ∧ ∃ a, ds = es a ∧ pre a S) (fun ds S d S' => ∀ a, ds = es a → post a S d S')
theorem dmir_ret {α : Type} {es : α → List D} {den : List D → M D} {pre : α → List MO → Prop} {post : α → List MO → D → List MO → Prop} (i : Inj es) (a : α) {S : List MO} (hs : SCl S) (h : pre a S)
    (body : Ret (den (es a) S) fun d' S'' => ∃ d S', post a S d S' ∧ Le S.length (.ok d S') (.ok d' S'')) : Ret (dmir es den pre post (es a) S) (post a S) := by
  have := spc_ret (den := den) (P := fun ds S => SCl S ∧ ∃ a, ds = es a ∧ pre a S) (Q := fun ds S d S' => ∀ a, ds = es a → post a S d S') (ds := es a) (S := S) ⟨hs, a, rfl, h⟩
    (body.mono fun d' S'' ⟨d, S', p, l⟩ => ⟨d, S', fun b e => by rw [← i _ _ e]; exact p, l⟩)
  exact this.mono fun d S' q => q a rfl
theorem dmir_le {α : Type} {es : α → List D} {den : List D → M D} {pre : α → List MO → Prop} {post : α → List MO → D → List MO → Prop} {ds : List D} {S : List MO} : Le S.length (dmir es den pre post ds S) (den ds S) := spc_le
noncomputable def dwel {α ρ : Type} (es : Nat → α → List D) (den : List D → M D) (pre : α → Prop) (enc : ρ → D) (G : α → ρ → Prop) : List D → M D :=
  dmir (fun p : Nat × α => es p.1 p.2) den (fun p S => pre p.2 ∧ ∃ w, p.1 < S.length ∧ S = put S p.1 w) (fun p S d S' => ∃ r w', d = enc r ∧ S' = put S p.1 w' ∧ G p.2 r)
theorem dwel_ex {α ρ : Type} {es : Nat → α → List D} {den : List D → M D} {pre : α → Prop} {enc : ρ → D} {G : α → ρ → Prop} (i : Inj (fun p : Nat × α => es p.1 p.2))
    (body : ∀ (n : Nat) (a : α) (S : List MO) (w : W3), SCl S → n < S.length → pre a → Ret (den (es n a) (put S n w)) fun d' S'' => ∃ r w', G a r ∧ Le S.length (.ok (enc r) (put S n w')) (.ok d' S''))
    {n : Nat} (a : α) {S : List MO} (w : W3) (hs : SCl S) (hn : n < S.length) (hp : pre a) : ∃ r w', G a r ∧ dwel es den pre enc G (es n a) (put S n w) = .ok (enc r) (put S n w') := by
  have h := dmir_ret (es := fun p : Nat × α => es p.1 p.2) (den := den) (pre := fun p S => pre p.2 ∧ ∃ w, p.1 < S.length ∧ S = put S p.1 w) (post := fun p S d S' => ∃ r w', d = enc r ∧ S' = put S p.1 w' ∧ G p.2 r) i (n, a) (S := put S n w) (SCl.put hs n w)
    ⟨hp, w, by rw [put_len]; exact hn, put_put.symm⟩ ((body n a S w hs hn hp).mono fun d' S'' ⟨r, w', g, l⟩ => ⟨enc r, put S n w', ⟨r, w', rfl, put_put.symm, g⟩, by rw [put_len]; exact l⟩)
  obtain ⟨d, S', e, r, w', rfl, rfl, g⟩ := h.eq
  exact ⟨r, w', g, by rw [put_put] at e; exact e⟩
theorem dwel_le {α ρ : Type} {es : Nat → α → List D} {den : List D → M D} {pre : α → Prop} {enc : ρ → D} {G : α → ρ → Prop} {ds : List D} {S : List MO} : Le S.length (dwel es den pre enc G ds S) (den ds S) := dmir_le
theorem app_get0 (S : List MO) (o : MO) (r : List MO) : (S ++ o :: r)[S.length]? = some o := by rw [List.getElem?_append_right (Nat.le_refl _), Nat.sub_self]; rfl
theorem app_set0 (S : List MO) (o u : MO) (r : List MO) : (S ++ o :: r).set S.length u = S ++ u :: r := by rw [List.set_append_right _ _ (Nat.le_refl _), Nat.sub_self]; rfl
mutual
theorem D.cl_up {n m : Nat} (h : n ≤ m) : ∀ {d : D}, D.cl n d = true → D.cl m d = true
  | .non, _ => by unfold D.cl; rfl
  | .bl _, _ => by unfold D.cl; rfl
  | .int _, _ => by unfold D.cl; rfl
  | .str _, _ => by unfold D.cl; rfl
  | .ty _, _ => by unfold D.cl; rfl
  | .ref _, _ => by unfold D.cl; rfl
  | .tup xs, c => by unfold D.cl at c ⊢; exact D.clAll_up h c
  | .tz xs, c => by unfold D.cl at c ⊢; exact D.clAll_up h c
  | .lst xs, c => by unfold D.cl at c ⊢; exact D.clAll_up h c
  | .fl xs, c => by unfold D.cl at c ⊢; exact D.clAll_up h c
  | .dk _ xs, c => by unfold D.cl at c ⊢; exact D.clAll_up h c
  | .dt _ xs, c => by unfold D.cl at c ⊢; exact D.clAll_up h c
  | .ins _ _ xs, c => by unfold D.cl at c ⊢; exact D.clAll_up h c
  | .ob k, c => by unfold D.cl at c ⊢; have := of_decide_eq_true c; exact decide_eq_true (by omega)
  | .lam _ _ _ _ xs, c => by unfold D.cl at c ⊢; exact D.clAll_up h c
  | .xo _ _ xs, c => by unfold D.cl at c ⊢; exact D.clAll_up h c
theorem D.clAll_up {n m : Nat} (h : n ≤ m) : ∀ {ds : List D}, D.clAll n ds = true → D.clAll m ds = true
  | [], _ => by unfold D.clAll; rfl
  | d :: ds, c => by
    unfold D.clAll at c ⊢
    rw [Bool.and_eq_true] at c
    rw [D.cl_up h c.1, D.clAll_up h c.2]; rfl
end
theorem MO.cl_up {n m : Nat} {o : MO} (c : o.cl n = true) (h : n ≤ m) : o.cl m = true := by
  cases o <;> first | exact D.clAll_up h c | rfl
/-- a list of one's own behind the store, grown -/
theorem append_own {S : List MO} {xs : List D} {r : List MO} {d : D} (hl : xs.length < sizeLine) : appendM (.ob S.length) [d] (S ++ .ml xs :: r) = .ok .non (S ++ .ml (xs ++ [d]) :: r) := by
  rw [appendM_1 (app_get0 S (.ml xs) r) hl, app_set0]
theorem SCl.app {S : List MO} (h : SCl S) {o : MO} (ho : o.cl (S.length + 1) = true) : SCl (S ++ [o]) := fun n u e => by
  by_cases hn : n < S.length
  · rw [List.getElem?_append_left hn] at e
    have := h n u e
    rw [List.length_append]
    exact MO.cl_up this (by omega)
  · rw [List.getElem?_append_right (by omega)] at e
    have hz : n - S.length = 0 := by
      have := (List.getElem?_eq_some_iff.mp e).1
      simp at this; omega
    rw [hz] at e
    cases e
    rw [List.length_append]
    exact ho
theorem ltP_trans (a b c : Nat × Nat) (h1 : ltP a b = true) (h2 : ltP b c = true) : ltP a c = true := by
  simp only [ltP, Bool.or_eq_true, Bool.and_eq_true, decide_eq_true_eq] at *
  omega
local macro_rules | `(tactic| simp! [$args,*]) => `(tactic| simp +contextual (maxSteps := 2000000) only [pure_app, bad_app, bind_app, then_ok, then_exc, then_bad, lift_app, toRes_some, toRes_none, ite_app, slot_zero, slot_succ, thenF_nx, thenF_rt, thenF_bk, thenF_ct, isB_bl, retF_rt, retF_nx, itemsOf_tup, itemsOf_lst, itemsOf_fl, itemsOf_str, tyName_non, tyName_bl, tyName_int, tyName_str, tyName_tup, tyName_lst, tyName_fl, tyName_dk, tyName_dt, seqOf_tup, lenOf_tup, seqOf_lst, lenOf_lst, seqOf_fl, lenOf_fl, listOf_lst, listOf_fl, lstOf_lst, lenOf_str, lenD_1, isi_eq, ltD_ii, ltD_ss, leD_ii, leD_ss, gtD_ii, gtD_ss, geD_ii, geD_ss, onI_ii, addD_ii, addD_ss, addD_tt, addD_ll, mulD_ii, mulD_si, mulD_li, ixD_si, ixD_tup, ixD_lst, ixD_fl, ixD_ob, intD_i, intD_b, absD_i, max2D_ii, min2D_ii, slD_s, slD_t, slD_l, intOf_i, joinD_1, upperD_0, reprBD_b, inD_eq, ninD_eq, eqD_eq, neD_eq, inB_sign, eqB_ss, eqB_ii, isD_n, isntD_n, tupleD_t, tupleD_l, listD_1, tyD_str, rng2_i, forM_nil, gSet_eq, bName_eq, wipeR_nil, wipeR_cons, obind_some, obind_none, omap_some, omap_none, kb_NoneType_int, kb_NoneType_bool, kb_NoneType_str, kb_NoneType_tuple, kb_NoneType_list, kb_NoneType_dict, kb_bool_int, kb_bool_bool, kb_bool_str, kb_bool_tuple, kb_bool_list, kb_bool_dict, kb_int_int, kb_int_bool, kb_int_str, kb_int_tuple, kb_int_list, kb_int_dict, kb_str_int, kb_str_bool, kb_str_str, kb_str_tuple, kb_str_list, kb_str_dict, kb_tuple_int, kb_tuple_bool, kb_tuple_str, kb_tuple_tuple, kb_tuple_list, kb_tuple_dict, kb_list_int, kb_list_bool, kb_list_str, kb_list_tuple, kb_list_list, kb_list_dict, kb_dict_int, kb_dict_bool, kb_dict_str, kb_dict_tuple, kb_dict_list, kb_dict_dict, seqS, ifS, retS, setS, dropS, skipS, asT, notT, andT, orT, ofT, andV, orV, notV, ifM, do2, opd, opd1, chain3, bltM, opl, consM, tupM, mkT, lstM, mkL, objMs, newL, alloc, fnM, methM, needT, oplm, sliceM, lcMM, oneM, valI, asgS, setIxS, forS, Bool.not_true, Bool.not_false, Bool.false_eq_true, if_false, if_true, reduceIte, List.set_cons_zero, List.set_cons_succ, decide_true, decide_false, Bool.true_and, Bool.false_and, Bool.and_true, Bool.and_false, Bool.true_or, Bool.false_or, Bool.or_true, Bool.or_false, sz_lit, disp1, keyOf_s, keyOf_i, pow59, pow15, pow39, pow38, pow590, aT, or_true, beq_self_eq_true, true_or, Int.reduceNeg, Int.reducePow, Int.reduceLT, Int.reduceLE, Int.reduceToNat, Nat.reduceAdd, Nat.reduceLeDiff, Nat.reducePow, and_self, and_true, true_and, false_and, and_false, or_false, false_or, List.length_cons, List.length_nil, ltTD_ii, ltTD_ss, lenDD_tup, lenDD_str, lenDD_lst, lenDD_dk, inDD_str, inDD_tup, inDD_dk, zipI, zip2_tt, zip2_ll, bSeq_2, cut1, ixDD_tup, at2_0, at2_1, at3_0, at3_1, at3_2, isiC_ty, isiC_ref, mulTD_ii, mulTD_t, negD_i, matchS, caseS, tagEq, noCase, setsD, List.getD_cons_zero, List.tail_cons, tupOf_t, Nat.reduceEqDiff, eq_self, List.length_map, sne_go_call, sne_go_raise, sne_go_leave, sne_call_go, sne_call_raise, sne_call_leave, sne_raise_go, sne_raise_call, sne_raise_leave, sne_leave_go, sne_leave_call, sne_leave_raise, at3_0', at3_2', at4_0', at4_2', at5_0', at5_2', at5_3', at6_0', at6_2', at6_3', at6_5', starM, seqM_app, List.map_nil, List.map_cons, List.append_nil, lc2M, lc2F, compM_S, ↓compS_map, compS_ok, compS_if, compS_no, compS_nil, compC_S, ↓compCS_map, compCS_ok, compCS_nil, compP_S, ↓compPS_map, compPS_ok, col_af, col_at, col_ta, col_fa, bol_af, bol_ta, bol_fa, bol_at, rt_col, rt_colT, ite_then, allD_map, anyD_map, allD_nil, allD_flatM, dcM, onePM, gtD_n, flat_map1, inB_nats, inB_strs, dinD_s, dinD_i, ixDD_dks, ixDD_dki, ixDD_lst, atI_n, idxTD_m, mulTD_1, cutL_hi, cutL_lo, eqB_tab, eqB_nats, zipD_map, enumD_map, upD_nat, map_eN, map_eNs, eN, eNm, eNs, eMs, ePs, eAs, eTab, Bool.not_not, ninDD_tup, ninDD_str, ninDD_lst, inDD_lst, ninDD_dk, dninD_s, nz_tz, nz_tup, tzOf_tz, rgD_n, rng1_n, nat_add, nat_add1, $args,*])
theorem dictOf_w {S : List MO} {n : Nat} {w : W3} (h : n < S.length) : dictOf (put S n w) (.ob n) = none := by
  show (match (put S n w)[n]? with | some (.mk ks vs) => some (ks, vs) | _ => none) = none
  rw [put_get h]; rfl
theorem ixx0 {S : List MO} {n : Nat} {w : W3} (h : n < S.length) : ixDD (put S n w) (.ob n) (.int 0) = some (.int w.1) := by unfold ixDD; rw [dictOf_w h]; exact ixw0 h
theorem ixx1 {S : List MO} {n : Nat} {w : W3} (h : n < S.length) : ixDD (put S n w) (.ob n) (.int 1) = some (.int w.2.1) := by unfold ixDD; rw [dictOf_w h]; exact ixw1 h
theorem ixx2 {S : List MO} {n : Nat} {w : W3} (h : n < S.length) : ixDD (put S n w) (.ob n) (.int 2) = some (.int w.2.2) := by unfold ixDD; rw [dictOf_w h]; exact ixw2 h
theorem inj_ob1 {α : Type} {e : α → D} (i : Inj e) : Inj (fun p : Nat × α => [D.ob p.1, e p.2]) := inj2 (e := D.ob) (fun _ _ h => D.ob.inj h) i
theorem inj_ob0 : Inj (fun p : Nat × Unit => [D.ob p.1]) := fun (a, _) (b, _) h => by simp only [List.cons.injEq, D.ob.injEq, and_true] at h; rw [h]
theorem inj_int : Inj D.int := fun _ _ h => D.int.inj h
noncomputable def den__law_dip (c : Cs) : Rho → M Fl := (seqS (ifS (asT (do2 (do2 (fun ρ => lift (slot ρ 0)) (fun _ => pure (.int 0)) ixDD) (fun _ => pure (.int 0)) gtD)) (seqS (setS 4 (do2 (bltM (consM (do2 (fun ρ => lift (slot ρ 0)) (fun _ => pure (.int 0)) ixDD) (fun _ => pure [])) intD) (fun ρ => lift (slot ρ 1)) modD)) (seqS (setIxS (fun ρ => lift (slot ρ 0)) (fun _ => pure (.int 0)) (do2 (do2 (fun ρ => lift (slot ρ 0)) (fun _ => pure (.int 0)) ixDD) (fun ρ => lift (slot ρ 1)) fdivD)) (retS (fun ρ => lift (slot ρ 4))))) skipS) (seqS (setIxS (fun ρ => lift (slot ρ 0)) (fun _ => pure (.int 2)) (do2 (do2 (fun ρ => lift (slot ρ 0)) (fun _ => pure (.int 2)) ixDD) (fun _ => pure (.int 1)) addD)) (seqS (setS 2 (do2 (bltM (consM (do2 (do2 (fun ρ => lift (slot ρ 0)) (fun _ => pure (.int 1)) ixDD) (do2 (fun _ => pure (.int 776531401)) (do2 (fun ρ => lift (slot ρ 0)) (fun _ => pure (.int 2)) ixDD) mulTD) addD) (fun _ => pure [])) intD) (fun _ => pure (.int 2305843009213693867)) modD)) (seqS (setS 3 (do2 (do2 (do2 (bltM (consM (do2 (fun ρ => lift (slot ρ 2)) (fun ρ => lift (slot ρ 2)) mulTD) (fun _ => pure [])) intD) (fun _ => pure (.int 1000000000000037)) modD) (fun ρ => lift (slot ρ 2)) mulTD) (do2 (fun _ => pure (.int 7351)) (do2 (fun ρ => lift (slot ρ 0)) (fun _ => pure (.int 2)) ixDD) mulTD) addD)) (retS (do2 (bltM (consM (do2 (do2 (bltM (consM (do2 (fun ρ => lift (slot ρ 3)) (do2 (fun ρ => lift (slot ρ 0)) (fun _ => pure (.int 1)) ixDD) addD) (fun _ => pure [])) intD) (fun _ => pure (.int 4398046510993)) modD) (fun _ => pure (.int 32)) fdivD) (fun _ => pure [])) intD) (fun ρ => lift (slot ρ 1)) modD))))))
def pre__law_dip (k : Int) : Prop := 0 < k ∧ k < 1073741824
def G__law_dip (k : Int) (r : Nat) : Prop := (r : Int) < k
noncomputable def F__law_dip (c : Cs) : List D → M D := dwel (fun (n : Nat) (a : Int) => [D.ob n, D.int a]) (fun ds => den__law_dip c (rho0 5 ds) >>= retF) (fun a => pre__law_dip a) eN (fun a r => G__law_dip a r)
theorem ex__law_dip (c : Cs)  {n : Nat} (k : Int) {S : List MO} (w : W3) (hs : SCl S) (hn : n < S.length) (hp : 0 < k ∧ k < 1073741824) : ∃ (r : Nat) (w' : W3), ((r : Int) < k) ∧ F__law_dip c [D.ob n, D.int k] (put S n w) = .ok (eN r) (put S n w') := by
  refine dwel_ex (es := fun (n : Nat) (a : Int) => [D.ob n, D.int a]) (den := fun ds => den__law_dip c (rho0 5 ds) >>= retF) (pre := fun a => pre__law_dip a) (enc := eN) (G := fun a r => G__law_dip a r) (inj_ob1 inj_int) ?_ k w hs hn hp
  clear hp hn hs w
  intro n k S w hs hn hp
  skip
  have hp : 0 < k ∧ k < 1073741824 := hp
  show Ret ((den__law_dip c [some (D.ob n), some (D.int k), none, none, none] >>= retF) (put S n w)) fun d' S'' => ∃ (r : Nat) (w' : W3), ((r : Int) < k) ∧ Le S.length (.ok (eN r) (put S n w')) (.ok d' S'')
  obtain ⟨hk1, hk2⟩ := hp
  have b1 : ∀ X : Int, (-18446744073709551616 < X % 2305843009213693867) = True := fun X => eq_true (by omega)
  have b2 : ∀ X : Int, (X % 2305843009213693867 < 18446744073709551616) = True := fun X => eq_true (by omega)
  have fin : ∀ (X : Int) (w' : W3), ∃ (r : Nat) (w2 : W3), ((r : Int) < k) ∧ Le S.length (.ok (eN r) (put S n w2)) (.ok (.int (X % k)) (put S n w')) := fun X w' => by
    have h1 := Int.emod_nonneg X (show k ≠ 0 by omega)
    have h2 := Int.emod_lt_of_pos X hk1
    refine ⟨(X % k).toNat, w', by omega, ?_⟩
    have e : eN (X % k).toNat = .int (X % k) := by unfold eN; rw [Int.toNat_of_nonneg h1]
    rw [e]; exact .refl
  by_cases ha : 0 < w.1
  · simp! [den__law_dip, decide_eq_true_eq, ixx0 hn, ixx1 hn, ixx2 hn, stw0 hn, stw2 hn, hk1, hk2, ha, Ret_ok]
    exact fin _ _
  · simp! [den__law_dip, decide_eq_true_eq, ixx0 hn, ixx1 hn, ixx2 hn, stw0 hn, stw2 hn, hk1, hk2, ha, b1, b2, Ret_ok]
    exact fin _ _
theorem le__law_dip (c : Cs) (ds : List D) (S : List MO) (hl : ds.length = 2) (hc : D.clAll S.length ds = true) (hf : D.fitAll ds = true) (hs : SCl S) : Le S.length (F__law_dip c ds S) ((den__law_dip c (rho0 5 ds) >>= retF) S) := dwel_le
def itemsL : D → Option (List D)
  | .tup xs => some xs
  | .lst xs => some xs
  | _ => none
theorem itemsL_of {d : D} {xs : List D} (h : itemsL d = some xs) : d = .tup xs ∨ d = .lst xs := by cases d <;> first | (cases h; first | exact .inl rfl | exact .inr rfl) | cases h
theorem ixDD_tupN (S : List MO) (xs : List D) (i : Nat) : ixDD S (.tup xs) (.int (i : Nat)) = xs[i]? := by rw [ixDD_tup, ixD_tup, atI_n]
theorem ixDD_lstN (S : List MO) (xs : List D) (i : Nat) : ixDD S (.lst xs) (.int (i : Nat)) = xs[i]? := by rw [ixDD_lst, ixD_lst, atI_n]
noncomputable def den__law_choose (c : Cs) : Rho → M Fl := (retS (do2 (fun ρ => lift (slot ρ 1)) (fnM 2 (F__law_dip c) (consM (fun ρ => lift (slot ρ 0)) (consM (bltM (consM (fun ρ => lift (slot ρ 1)) (fun _ => pure [])) lenDD) (fun _ => pure [])))) ixDD))
def pre__law_choose (d : D) : Prop := ∃ xs, itemsL d = some xs ∧ xs ≠ [] ∧ xs.length < 1073741824
def G__law_choose (d : D) (r : D) : Prop := ∃ xs, itemsL d = some xs ∧ r ∈ xs
noncomputable def F__law_choose (c : Cs) : List D → M D := dwel (fun (n : Nat) (a : D) => [D.ob n, (fun d : D => d) a]) (fun ds => den__law_choose c (rho0 2 ds) >>= retF) (fun a => pre__law_choose a) (fun d : D => d) (fun a r => G__law_choose a r)
theorem ex__law_choose (c : Cs)  {n : Nat} (d : D) {S : List MO} (w : W3) (hs : SCl S) (hn : n < S.length) (hp : ∃ xs, itemsL d = some xs ∧ xs ≠ [] ∧ xs.length < 1073741824) : ∃ (r : D) (w' : W3), (∃ xs, itemsL d = some xs ∧ r ∈ xs) ∧ F__law_choose c [D.ob n, (d)] (put S n w) = .ok ((r)) (put S n w') := by
  refine dwel_ex (es := fun (n : Nat) (a : D) => [D.ob n, (fun d : D => d) a]) (den := fun ds => den__law_choose c (rho0 2 ds) >>= retF) (pre := fun a => pre__law_choose a) (enc := (fun d : D => d)) (G := fun a r => G__law_choose a r) (inj_ob1 inj_D) ?_ d w hs hn hp
  clear hp hn hs w
  intro n d S w hs hn hp
  skip
  have hp : ∃ xs, itemsL d = some xs ∧ xs ≠ [] ∧ xs.length < 1073741824 := hp
  show Ret ((den__law_choose c [some (D.ob n), some ((d))] >>= retF) (put S n w)) fun d' S'' => ∃ (r : D) (w' : W3), (∃ xs, itemsL d = some xs ∧ r ∈ xs) ∧ Le S.length (.ok ((r)) (put S n w')) (.ok d' S'')
  obtain ⟨xs, h1, h2, h3⟩ := hp
  have hl : 0 < xs.length := List.length_pos_iff.mpr h2
  obtain ⟨i, w1, hi, e1⟩ := ex__law_dip c (n := n) ((xs.length : Nat) : Int) w hs hn ⟨by omega, by omega⟩
  have hi' : i < xs.length := by omega
  have hx : xs[i]? = some xs[i] := List.getElem?_eq_getElem hi'
  have fin : ∃ (r : D) (w2 : W3), (∃ ys, itemsL d = some ys ∧ r ∈ ys) ∧ Le S.length (.ok r (put S n w2)) (.ok xs[i] (put S n w1)) := ⟨xs[i], w1, ⟨xs, h1, List.getElem_mem hi'⟩, .refl⟩
  rcases itemsL_of h1 with rfl | rfl
  · simp! [den__law_choose, e1, ixDD_tupN, hx, Ret_ok]
    exact fin
  · simp! [den__law_choose, e1, ixDD_lstN, hx, Ret_ok]
    exact fin
theorem le__law_choose (c : Cs) (ds : List D) (S : List MO) (hl : ds.length = 2) (hc : D.clAll S.length ds = true) (hf : D.fitAll ds = true) (hs : SCl S) : Le S.length (F__law_choose c ds S) ((den__law_choose c (rho0 2 ds) >>= retF) S) := dwel_le
theorem wipeFl_nx (vs : List Nat) (ρ : Rho) : wipeFl vs (.nx ρ) = .nx (wipeR ρ vs) := (rfl)
def AnsG (total points : Nat) (names : List Str) (a : Ans) : Prop := a.to ∈ names ∧ (a.un.map (·.1)).Sublist (List.range total) ∧ ∀ p ∈ a.un, p.2 < points
theorem itemsL_l (xs : List D) : itemsL (.lst xs) = some xs := (rfl)
/-- what a drawn move is -/
def MvG (t p : Nat) (ns ss : List Str) : Mv → Prop
  | .go a b ps => a < p ∧ b < p ∧ ps ≠ [] ∧ ascP ps = true ∧ ps.length ≤ 3 ∧ ∀ q ∈ ps, q.1 < t ∧ q.2 < t
  | .call a b m s w => a < p ∧ b < p ∧ m ∈ ns ∧ modesB s t = true ∧ (w.map (·.sig)).Sublist ss ∧ ∀ x ∈ w, AnsG t p ns x
  | .raise a b g s => a < p ∧ b < p ∧ g ∈ ss ∧ modesB s t = true
  | .leave a s => a < p ∧ modesB s t = true
structure Pl where
  total : Nat
  starts : List Nat
  sigs : List Str
  rows : List Pr
def SGS : List (List Str) := [["a"], ["a", "b"], ["c"], ["a"], []]
def NMS : List Str := ["main", "p", "q", "h"]
def RowG (t : Nat) (ns ss : List Str) (r : Pr) : Prop := 0 < r.points ∧ r.points ≤ 3 ∧ 0 < r.moves.length ∧ r.moves.length ≤ 5 ∧ ∀ m ∈ r.moves, MvG t r.points ns ss m
structure PlG (p : Pl) : Prop where
  t0 : 0 < p.total
  t3 : p.total ≤ 3
  t2 : 1 < p.sigs.length → p.total ≤ 2
  st : modesB p.starts p.total = true
  sg : p.sigs ∈ SGS
  ne : p.rows ≠ []
  nd : (p.rows.map (·.name)).Nodup
  nm : ∀ r ∈ p.rows, r.name ∈ NMS
  row : ∀ r ∈ p.rows, RowG p.total (p.rows.map (·.name)) p.sigs r
theorem still_t (xs : List D) : still (.tup xs) = some xs := (rfl)
set_option maxHeartbeats 4000000
section
variable {prog : Program} {w : World} {A : Around} {E : Value → Shared → Prop} {s : Shared} {K : Frag} {x C : Addr} {ox : Obj} {od : Option Obj}
theorem bind_found {name : Str} {a g : Value} (hc : (PySem.W.clsIn K C).isSome = true) (ha : PySem.W.findIn K (.ref C) name = some (some a)) (hg : PySem.W.specialIn K a "__get__" = some (some g)) (ht : PySem.W.takesIn K a = some true) : PySem.W.findObj K C od name = some (.bind g a) := by
  obtain ⟨cd, hc⟩ := Option.isSome_iff_exists.mp hc
  unfold PySem.W.findObj
  rw [hc, Option.bind_some, ha, Option.bind_some]
  simp [hg, ht]
/-- err.__class__, whatever dict it has -/
theorem class_of {Q : Option Value → Shared → Prop} (T : ExcC K C) (X : K.In s.heap) (I : PySem.W.InstAt s.heap x ox C od) (h : Q (some (.ref C)) { s with toks := s.toks + 1 }) : wpAny (model prog w) A (getAttr? (.ref x) "__class__") Q E s := by
  have kf : PySem.W.findObj K C od "__class__" = some (.bind (.builtin "getset_descriptor.__get__") (.builtin "object.__class__")) := bind_found (by obtain ⟨cd, q, _⟩ := PySem.W.any_some T.hd; rw [q]; rfl) T.ha T.hn T.ht
  obtain ⟨hp, g, d, t, os⟩ := s
  have L0 := I.type (M := model prog w)
  have L1 := PySem.W.looks_findIn (M := model prog w) X T.hg
  have L2' := PySem.W.looks_findIn (M := model prog w) X T.hk
  have L3 := PySem.W.looks_find (M := model prog w) X I kf
  have isE : PySem.W.Looks (model prog w) hp (isInstance (.ref x) (.type "BaseException")) true := L0.andThen (PySem.W.looks_subIn X T.hs)
  have z0 : (false && onTheHeap (Value.builtin "BaseException.__getattribute__")) = false := rfl
  have z2 : (Value.builtin "BaseException.__getattribute__" == Value.builtin "object.__getattribute__") = false := by decide +kernel
  have z1 : (onTheHeap (Value.ref C) && Value.builtin "BaseException.__getattribute__" == Value.builtin "object.__getattribute__") = false := by rw [z2]; rfl
  unfold getAttr? getAttrBy? getAttrBy
  refine wpAny_bind (wpAny_mkText (wpAny_bind (wpAny_attempt (wpAny_holding (wpAny_bind (L0.at (wpAny_bind (L1.at ?_))))))))
  show wpAny _ _ (if (onTheHeap (Value.ref C) && Value.builtin "BaseException.__getattribute__" == Value.builtin "object.__getattribute__") = true then _ else _) _ _ _
  rw [z1, if_neg Bool.false_ne_true]
  unfold getAttrByItsOwn hookBefore
  refine wpAny_bind ?_
  rw [if_pos (show onTheHeap (Value.ref C) = true from rfl)]
  refine L2'.at ?_
  refine wpAny_bind (wpAny_attempt (wpAny_holding ?_))
  unfold callGetattribute
  rw [z0, if_neg Bool.false_ne_true]
  unfold boundAndCalled
  rw [PySem.F.excAttr_ValueError.ga.bind (.ref x)]
  refine wpAny_bind (wpAny_pure ?_)
  show wpAny _ _ (call (.builtin "BaseException.__getattribute__") [.ref x, .str "__class__" t]) _ _ _
  refine wpAny_call (codeAny_call_builtin PySem.F.excAttr_ValueError.ga.plain PySem.F.entry_bexc_ga ?_)
  refine @PySem.W.check_slot (model prog w) _ _ ⟨hp, g, d, t + 1, os⟩ "BaseException.__getattribute__" "BaseException" "__getattribute__" (.ref x) [.str "__class__" t] [] _ (by decide +kernel) (by decide +kernel) isE (PySem.F.args_bexc_ga (.ref x) (.str "__class__" t)) ?_
  unfold Builtin.«object.__getattribute__»
  refine wpAny_bind (wpAny_of_eq (a := ((Value.ref x : Value), [Value.str "__class__" t])) (by first | rfl | (simp only [slotArgs]; rfl)) ?_)
  refine wpAny_bind (wpAny_pure (wpAny_bind (L0.at (wpAny_bind (L3.at ?_)))))
  show wpAny _ _ (holding [Value.builtin "object.__class__"] (call (.builtin "getset_descriptor.__get__") [.builtin "object.__class__", .ref x, .ref C]) >>= ret) _ _ _
  refine wpAny_bind (wpAny_holding (wpAny_call (PySem.W.class_get (s := ⟨hp, g, d, t + 1, os⟩) (ox := ox) (od := od) X I T.hm ?_)))
  refine wpAny_pure ?_
  show wpAny _ _ (handedOut (.ref C)) _ _ _
  rw [PySem.W.handedOut_of (v := .ref C) rfl]
  first
    | exact wpAny_pure (wpAny_pure h)
    | exact wpAny_pure h
    | exact wpAny_pure (wpAny_bind (wpAny_pure (wpAny_pure h)))
theorem kitx_of (T : ExcC K C) : PySem.W.KitX K (.ref x) (.ref C) (fun h => ∃ ox od, PySem.W.InstAt h x ox C od) where
  ty := fun _ _ _ ⟨_, _, I⟩ => I.type
  it := fun _ _ X _ => by
    obtain ⟨cdD, hcD, _⟩ := PySem.W.any_some T.hd
    unfold PySem.W.clsIn at hcD
    split at hcD
    · rename_i c' d' cd' sl' ho
      intro A' Q' E' s' k q
      unfold isType loadHead
      exact wpAny_bind (wpAny_loadPart (k _ _ (X _ _ ho)) (wpAny_pure q))
    · cases hcD
  ne := fun h tp dd its n sl X htp => by
    obtain ⟨cdD, hcD, _⟩ := PySem.W.any_some T.hd
    refine Bool.eq_false_iff.mpr fun q => ?_
    have e : C = tp := Value.ref.inj (beq_iff_eq.mp q)
    subst e
    unfold PySem.W.clsIn at hcD
    split at hcD
    · rename_i c' d' cd' sl' ho
      have z := (X _ _ ho).symm.trans htp
      cases z
    · cases hcD
  ca := fun X ⟨_, _, I⟩ k => class_of T X I k
end
section
variable {X : Cx} {W : WX} {pins : List (Addr × Obj)} {σ : L2.St} {H : Hp} {s : Shared} {a C : Addr} {dd : Option Addr}
/-- what is tracked as an exception, at its place -/
theorem inst_of (I : Inv X pins σ H s) (h : H a = some (XOb (.ref C) dd a)) (hd : ∀ dx, dd = some dx → ∃ fs, H dx = some (.xd fs)) : ∃ ox od, PySem.W.InstAt s.heap a ox C od ∧ (∀ dx, dd = some dx → ∃ o, od = some o ∧ s.heap.get? dx = some o) := by
  obtain ⟨⟨oe, vs, e, z, hdt⟩, _, _⟩ := I.hok a _ h
  cases dd with
  | none => exact ⟨oe, none, ⟨e, z.1, by unfold PySem.W.notCls; rw [hdt] <;> rfl, by rw [z.2]; trivial⟩, fun _ q => nomatch q⟩
  | some dx =>
    obtain ⟨fs, q⟩ := hd dx rfl
    obtain ⟨mA, hns, _⟩ := I.hok dx _ q
    obtain ⟨o, ho, _⟩ := lookIn_ns hns
    exact ⟨oe, some o, ⟨e, z.1, by unfold PySem.W.notCls; rw [hdt] <;> rfl, by rw [z.2]; exact ho⟩, fun _ q => by cases q; exact ⟨o, rfl, ho⟩⟩
/-- an exception that is made and held -/
theorem pe_held {e : Expr} {t : L2.St → Hp → XK → Prop} (he : PMk X e t) : PE X e (fun σ H Q => t σ H fun cls d H1 => ∀ a, H1 a = none → Q (.ref a) (upd H1 a (XOb cls d a))) := by
  refine ⟨fun pins s σ H Q I h => wpAny_mono (he pins s σ H _ I h) (fun u s' z => ?_) fun _ _ z => z⟩
  obtain ⟨a, oe, vs, sI, H', cls, d, rfl, J, k, hn, ha, hz, hd, h1, na, os, ag, r, q⟩ := z
  have J2 : Inv X pins σ (upd H' a (XOb cls d a)) s' := J.call' (ch := []) os (Un.laidN k hn na) (J.hok.laidN k na ⟨⟨oe, vs, ha, hz, hd⟩, ⟨oe, ha⟩, fun _ _ ⟨o, v, q, r⟩ k => ⟨o, v, k o q, r⟩⟩) ag (fun _ z => nomatch z)
  exact ⟨.ref a, _, J2, rfl, q a na⟩
end
def xo1M (C : Addr) (m : Rho → M D) : Rho → M D := fun ρ => m ρ >>= fun _ => pure (D.xo C [] [])
def xo2M (C : Addr) (f : Str) (m : Rho → M D) : Rho → M D := fun ρ => m ρ >>= fun d => pure (D.xo C [f] [d])
section
variable {X : Cx} {W : WX} {x f : Str} {C : Addr} {e : Expr} {m : Rho → M D} {p pos : Pos}
/-- C(e), held -/
theorem pd_xo1 (T : Exc1 X.prog X.K X.mg x C) (hr : Room 1 X.A) (hg : Gl X x) (ha : PDE X W e m) (hdb : (x == ("__debug__" : Str)) = false := by decide) (he : starEach [e] X.env = (false, eval e X.env) :: starEach [] X.env := by rfl) :
    PDE X W (.Call (.Name x p) [e] [] pos) (xo1M C m) := PE.imp (pe_held (pmk_x1 T hr hg (pa_cons ha pa_nil he) hdb he)) fun σ H Q ⟨w, ρ, a, h⟩ =>
  tE_bind (f := fun _ _ => pure (D.xo C [] [])) a h fun d v w1 e1 a1 hv h1 => ⟨rfl, fun b hb => by
    obtain ⟨d2, x2⟩ := a1.2.1.settle (o := XOb (.ref C) none b) hb
    exact h1 { w1 with B := upd w1.B b (XOb (.ref C) none b), H := upd w1.H b (XOb (.ref C) none b) } rfl x2 d2 _ (.xo (dd := none) (vs := []) upd_same (fun _ q => nomatch q) (fun _ => rfl) rfl .nil)⟩
theorem pd_xo2 (T : Exc2 X.prog X.K X.mg x C f) (hr : Room 1 X.A) (hg : Gl X x) (ha : PDE X W e m) (hdb : (x == ("__debug__" : Str)) = false := by decide) (he : starEach [e] X.env = (false, eval e X.env) :: starEach [] X.env := by rfl) :
    PDE X W (.Call (.Name x p) [e] [] pos) (xo2M C f m) := PE.imp (pe_held (pmk_x2 T hr hg (pa_cons ha pa_nil he) hdb he)) fun σ H Q ⟨w, ρ, a, h⟩ =>
  tE_bind (f := fun _ d => pure (D.xo C [f] [d])) a h fun d v w1 e1 a1 hv h1 => ⟨v, rfl, fun dx hd b hb => by
    obtain ⟨d2, x2⟩ := a1.2.1.settle (o := .xd [(f, v)]) hd
    have ne : b ≠ dx := fun z => by rw [z, upd_same] at hb; cases hb
    obtain ⟨d3, x3⟩ := d2.settle (o := XOb (.ref C) (some dx) b) hb
    refine h1 { w1 with B := upd (upd w1.B dx (.xd [(f, v)])) b (XOb (.ref C) (some dx) b), H := upd (upd w1.H dx (.xd [(f, v)])) b (XOb (.ref C) (some dx) b) } rfl (x2.trans d2 x3) d3 _ (.xo (dd := some dx) (vs := [v]) upd_same (fun dy q => ?_) (fun q => nomatch q) rfl (.cons (Dt.ex (x2.trans d2 x3) hv) .nil))
    cases q
    exact (upd_ne (Ne.symm ne)).trans upd_same⟩
end
def isXD (all yes : List Addr) (_ : List MO) (d : D) : Option D := match d with
  | .xo A _ _ => if A ∈ all then some (.bl (decide (A ∈ yes))) else none
  | _ => none
def isXM (all yes : List Addr) (m : Rho → M D) : Rho → M D := fun ρ => m ρ >>= opd1 (isXD all yes)
/-- what the classes all say to cv: those in yes are of it -/
def XKit (K : Frag) (all yes : List Addr) (cv : Value) : Prop := ∀ A ∈ all, ExcC K A ∧ PySem.W.kitOne K (.ref A) cv = some (decide (A ∈ yes))
def rXK (K : Frag) (all yes : List Addr) (cv : Value) : List V → Hp → VK → Prop := fun xs H Q => ∃ (a A : Addr) (c : V) (dd : Option Addr), xs = [.ref a, c] ∧ (∀ u, RelV c u → u = cv) ∧ A ∈ all ∧ H a = some (XOb (.ref A) dd a) ∧ (∀ dx, dd = some dx → ∃ fs, H dx = some (.xd fs)) ∧ Q (.bl (decide (A ∈ yes))) H
theorem call_isX {X : Cx} {all yes : List Addr} {cv : Value} (T : XKit X.K all yes cv) : CallR X (.builtin "isinstance") (rXK X.K all yes cv) := by
  intro pins s σ H xs us Q I r h
  obtain ⟨a, A, c, dd, rfl, hcv, hA, ha, hd, q⟩ := h
  cases r with
  | cons rx rr =>
    cases rr with
    | cons rt rr =>
      cases rr
      cases rx
      cases hcv _ rt
      obtain ⟨ox, od, J, _⟩ := inst_of I ha hd
      exact PySem.W.kia_one (kitx_of (T A hA).1) I.kIn ⟨ox, od, J⟩ (T A hA).2 (fun z => nomatch z) fun tk => ⟨.bl _, H, I.kept (t' := tk) fun _ _ z => z, rfl, q⟩
section
variable {X : Cx} {W : WX} {e : Expr} {m : Rho → M D} {p p1 p2 pos : Pos} {y : Str}
theorem isX_run {K : Frag} {σ : L2.St} {H : Hp} {Q : VK} {all yes : List Addr} {cv : Value} {c : V} (hcv : ∀ u, RelV c u → u = cv) (h : tE K W (fun ρ => m ρ >>= opd1 (isXD all yes)) σ H Q) : tCB (rXK K all yes cv) (tCons (tE K W m) (tCons (tC c) tNil)) σ H Q := by
  obtain ⟨w, ρ, a, h⟩ := h
  refine tE_bind (f := fun _ d => opd1 (isXD all yes) d) a h fun d v w1 e1 a1 hv h1 => ?_
  obtain ⟨r, q, k⟩ := Pst.opd1 h1
  cases d with
  | xo A ns ds =>
    have q : (if A ∈ all then some (D.bl (decide (A ∈ yes))) else none) = some r := q
    by_cases hA : A ∈ all
    · rw [if_pos hA] at q
      cases q
      cases hv with
      | @xo a2 _ dd _ vs _ z1 z2 z3 z4 z5 => exact ⟨a2, A, c, dd, rfl, hcv, hA, a1.2.1.fz _ _ z1, fun dx e => ⟨_, a1.2.1.fz _ _ (z2 dx e)⟩, k w1 rfl (Ex.refl _) a1.2.1 _ (.bl _)⟩
    · rw [if_neg hA] at q; cases q
  | _ => cases q
/-- C an own class -/
theorem pd_isX {all yes : List Addr} {C : Addr} (T : XKit X.K all yes (.ref C)) (he : PDE X W e m) (hg : Gl X "isinstance") (hm : X.mg "isinstance" = none) (hgC : Gl X y) (hmC : X.mg y = some (.ref C)) (hy : (y == ("__debug__" : Str)) = false := by decide)
    (hst : starEach [e, .Name y p2] X.env = (false, eval e X.env) :: starEach [.Name y p2] X.env := by rfl) (hpl : (backTo pos (starEach [.Name y p2] X.env)).any (·.1) = false := by rfl) :
    PDE X W (.Call (.Name "isinstance" p) [e, .Name y p2] [] pos) (isXM all yes m) :=
  PE.imp (pe_callB (call_isX T) hg hm (by decide +kernel) (pa_cons he (pa_cons (pe_glob hgC hmC (v := .ref C) rfl hy) pa_nil) hst) (by decide) (by decide) hst hpl) fun σ H Q h => isX_run (fun u r => r) h
/-- a built-in one -/
theorem pd_isXb {all yes : List Addr} {T : String} (Z : XKit X.K all yes (.type T)) (he : PDE X W e m) (hg : Gl X "isinstance") (hm : X.mg "isinstance" = none) (hgC : Gl X y) (hmC : X.mg y = none) (hb : bootBuiltins y = some (.type T)) (hn : y ≠ "__name__" := by decide) (hy : (y == ("__debug__" : Str)) = false := by decide)
    (hst : starEach [e, .Name y p2] X.env = (false, eval e X.env) :: starEach [.Name y p2] X.env := by rfl) (hpl : (backTo pos (starEach [.Name y p2] X.env)).any (·.1) = false := by rfl) :
    PDE X W (.Call (.Name "isinstance" p) [e, .Name y p2] [] pos) (isXM all yes m) :=
  PE.imp (pe_callB (call_isX Z) hg hm (by decide +kernel) (pa_cons he (pa_cons (pe_bltn hgC hmC (v := .ty T) hb rfl hn hy) pa_nil) hst) (by decide) (by decide) hst hpl) fun σ H Q h => isX_run (fun u r => r) h
/-- e.f -/
def xfD (C : Addr) (f : Str) (_ : List MO) (d : D) : Option D := match d with
  | .xo A ns ds => if A = C then look ns ds f else none
  | _ => none
def xofM (C : Addr) (f : Str) (m : Rho → M D) : Rho → M D := fun ρ => m ρ >>= opd1 (xfD C f)
theorem pd_xof {C : Addr} {f : Str} (T : XRd X.K C f) (he : PDE X W e m) (hb : attributeBase e f X.env (eval e X.env) = eval e X.env := by rfl) : PDE X W (.Attribute e f pos) (xofM C f m) := by
  refine ⟨fun pins s σ H Q I ⟨w, ρ, a, h⟩ => ?_⟩
  refine attr_of hb (thn (he.run pins s σ H _ I (tE_bind (f := fun _ d => opd1 (xfD C f) d) a h (Q := fun v H1 => ∃ (b : Addr) (dd : Addr) (fs : List (Str × V)) (u : V), v = .ref b ∧ H1 b = some (XOb (.ref C) (some dd) b) ∧ H1 dd = some (.xd fs) ∧ fs.lookup f = some u ∧ Q u H1) fun d v w1 e1 a1 hv h1 => ?_)) fun u s1 hh => ?_)
  · obtain ⟨r, q0, k⟩ := Pst.opd1 h1
    cases d with
    | xo A ns ds =>
      have q : (if A = C then look ns ds f else none) = some r := q0
      clear q0
      by_cases hA : A = C
      · rw [if_pos hA] at q
        subst hA
        cases hv with
        | @xo a2 _ dd _ vs _ z1 z2 z3 z4 z5 =>
          obtain ⟨u, q1, q2⟩ := look_zip z5 q
          cases dd with
          | none =>
            rw [z3 rfl] at q
            cases ds <;> cases q
          | some dx => exact ⟨a2, dx, _, u, rfl, a1.2.1.fz _ _ z1, a1.2.1.fz _ _ (z2 dx rfl), q1, k w1 rfl (Ex.refl _) a1.2.1 _ q2⟩
      · rw [if_neg hA] at q; cases q
    | _ => cases q0
  · obtain ⟨x, H1, I1, rx, b, dx, fs, v, ex, eb, ed, l, q⟩ := hh
    subst ex
    obtain rfl : u = Value.ref b := rx
    obtain ⟨ox, od, J, ho⟩ := inst_of I1 eb fun dy e => by cases e; exact ⟨_, ed⟩
    obtain ⟨o, rfl, hget⟩ := ho dx rfl
    obtain ⟨mA, hns, hr⟩ := I1.hok dx _ ed
    obtain ⟨o2, ho2, hl⟩ := lookIn_ns hns
    rw [hget] at ho2
    cases ho2
    obtain ⟨u, hu, ru⟩ := RelO.some_of (v := v) (o := mA f) (by rw [← l]; exact hr f)
    exact HandSPX.exc_get I1.kIn J T.xf.ga T.xf.gg T.xf.exC (PySem.W.findObj_own T.xf.hdC T.no rfl (by rw [hl, hu])) (handed_of ru) ⟨v, H1, I1.tok _, ru, q⟩
end
set_option maxHeartbeats 2000000
section
open PySem.SeqAt
open AutoSeq1 (wpAny_loadPart')
open MeetsSeq
end
theorem takes0 {X : Cx} : Takes X (fun _ _ _ _ => False) := fun _ _ h => by
  obtain ⟨_, _, _, _, _, _, _, _, _, _, _, _, _, _, _, _, w⟩ := h
  exact w.elim
theorem xk_of {K : Frag} {all yes : List Addr} {cv : Value} (h : xkB K all yes cv = true) : XKit K all yes cv := fun A hA => by
  have q := List.all_eq_true.mp h A hA
  simp only [Bool.and_eq_true, decide_eq_true_eq] at q
  exact ⟨exc_of q.1, q.2⟩
def catO (x y : D) : M D := fun S => match lstOf S x, lstOf S y with
  | some xs, some ys => newL (xs ++ ys) S
  | _, _ => .bad
def addOM (ma mb : Rho → M D) : Rho → M D := fun ρ => ma ρ >>= fun x => mb ρ >>= fun y => catO x y
theorem catO_ll (xs ys : List D) (S : List MO) (h : (xs ++ ys).length ≤ sizeLine) : catO (.lst xs) (.lst ys) S = .ok (.ob S.length) (S ++ [.ml (xs ++ ys)]) := by
  show newL (xs ++ ys) S = _
  unfold newL
  rw [if_pos h]; rfl
section
variable {X : Cx} {W : WX} {a b : Expr} {ma mb : Rho → M D} {pos : Pos}
theorem pd_addO (ha : PDE X W a ma) (hb : PDE X W b mb) : PDE X W (.BinOp a .Add b pos) (addOM ma mb) := PE.imp (pe_op (r := rCat) op_cat ha hb) fun σ H Q ⟨w, ρ, a, h⟩ => by
  refine tE_bind (f := fun ρ x => mb ρ >>= fun y => catO x y) a h fun dx vx w1 e1 a1 hx h1 => tE_bind (f := fun ρ y => catO dx y) a1 h1 fun dy vy w2 e2 a2 hy h2 => ?_
  have h2 : Pst X.K (WE W σ) w2 (match lstOf w2.S dx, lstOf w2.S dy with
    | some xs, some ys => newL (xs ++ ys) w2.S
    | _, _ => .bad) (kE X.K Q) := h2
  cases q1 : lstOf w2.S dx with
  | none => simp only [q1] at h2; exact h2.elim
  | some xs =>
    cases q2 : lstOf w2.S dy with
    | none => simp only [q1, q2] at h2; exact h2.elim
    | some ys =>
      simp only [q1, q2] at h2
      obtain ⟨l, vs, rfl, hl, tl⟩ := lstOf_ok a2.2.1 (Dt.ex e2 hx) q1
      obtain ⟨r, us, rfl, hr, tr⟩ := lstOf_ok a2.2.1 hy q2
      unfold newL at h2
      by_cases hz : (xs ++ ys).length ≤ sizeLine
      · rw [if_pos hz] at h2
        refine ⟨l, r, vs, us, rfl, rfl, hl, hr, by rw [tl.length, tr.length, ← List.length_append]; exact hz, fun p hp => ?_⟩
        obtain ⟨w3, hS, hH, x3, d3, t3⟩ := new_ml a2.2.1 hp (tl.append tr)
        have := h2 w3 hS x3 d3 _ t3
        rw [hH] at this
        exact this
      · rw [if_neg hz] at h2; exact h2.elim
end
set_option maxHeartbeats 1000000
local macro_rules | `(tactic| simp! [$args,*]) => `(tactic| simp +contextual (maxSteps := 2000000) only [pure_app, bad_app, bind_app, then_ok, then_exc, then_bad, lift_app, toRes_some, toRes_none, ite_app, slot_zero, slot_succ, thenF_nx, thenF_rt, thenF_bk, thenF_ct, isB_bl, retF_rt, retF_nx, itemsOf_tup, itemsOf_lst, itemsOf_fl, itemsOf_str, tyName_non, tyName_bl, tyName_int, tyName_str, tyName_tup, tyName_lst, tyName_fl, tyName_dk, tyName_dt, seqOf_tup, lenOf_tup, seqOf_lst, lenOf_lst, seqOf_fl, lenOf_fl, listOf_lst, listOf_fl, lstOf_lst, lenOf_str, lenD_1, isi_eq, ltD_ii, ltD_ss, leD_ii, leD_ss, gtD_ii, gtD_ss, geD_ii, geD_ss, onI_ii, addD_ii, addD_ss, addD_tt, addD_ll, mulD_ii, mulD_si, mulD_li, ixD_si, ixD_tup, ixD_lst, ixD_fl, ixD_ob, intD_i, intD_b, absD_i, max2D_ii, min2D_ii, slD_s, slD_t, slD_l, intOf_i, joinD_1, upperD_0, reprBD_b, inD_eq, ninD_eq, eqD_eq, neD_eq, inB_sign, eqB_ss, eqB_ii, isD_n, isntD_n, tupleD_t, tupleD_l, listD_1, tyD_str, rng2_i, forM_nil, gSet_eq, bName_eq, wipeR_nil, wipeR_cons, obind_some, obind_none, omap_some, omap_none, kb_NoneType_int, kb_NoneType_bool, kb_NoneType_str, kb_NoneType_tuple, kb_NoneType_list, kb_NoneType_dict, kb_bool_int, kb_bool_bool, kb_bool_str, kb_bool_tuple, kb_bool_list, kb_bool_dict, kb_int_int, kb_int_bool, kb_int_str, kb_int_tuple, kb_int_list, kb_int_dict, kb_str_int, kb_str_bool, kb_str_str, kb_str_tuple, kb_str_list, kb_str_dict, kb_tuple_int, kb_tuple_bool, kb_tuple_str, kb_tuple_tuple, kb_tuple_list, kb_tuple_dict, kb_list_int, kb_list_bool, kb_list_str, kb_list_tuple, kb_list_list, kb_list_dict, kb_dict_int, kb_dict_bool, kb_dict_str, kb_dict_tuple, kb_dict_list, kb_dict_dict, seqS, ifS, retS, setS, dropS, skipS, asT, notT, andT, orT, ofT, andV, orV, notV, ifM, do2, opd, opd1, chain3, bltM, opl, consM, tupM, mkT, lstM, mkL, objMs, newL, alloc, fnM, methM, needT, oplm, sliceM, lcMM, oneM, valI, asgS, setIxS, forS, Bool.not_true, Bool.not_false, Bool.false_eq_true, if_false, if_true, reduceIte, List.set_cons_zero, List.set_cons_succ, decide_true, decide_false, Bool.true_and, Bool.false_and, Bool.and_true, Bool.and_false, Bool.true_or, Bool.false_or, Bool.or_true, Bool.or_false, sz_lit, disp1, keyOf_s, keyOf_i, pow59, pow15, pow39, pow38, pow590, aT, or_true, beq_self_eq_true, true_or, Int.reduceNeg, Int.reducePow, Int.reduceLT, Int.reduceLE, Int.reduceToNat, Nat.reduceAdd, Nat.reduceLeDiff, Nat.reducePow, and_self, and_true, true_and, false_and, and_false, or_false, false_or, List.length_cons, List.length_nil, ltTD_ii, ltTD_ss, lenDD_tup, lenDD_str, lenDD_lst, lenDD_dk, inDD_str, inDD_tup, inDD_dk, zipI, zip2_tt, zip2_ll, bSeq_2, cut1, ixDD_tup, at2_0, at2_1, at3_0, at3_1, at3_2, isiC_ty, isiC_ref, mulTD_ii, mulTD_t, negD_i, matchS, caseS, tagEq, noCase, setsD, List.getD_cons_zero, List.tail_cons, tupOf_t, Nat.reduceEqDiff, eq_self, List.length_map, sne_go_call, sne_go_raise, sne_go_leave, sne_call_go, sne_call_raise, sne_call_leave, sne_raise_go, sne_raise_call, sne_raise_leave, sne_leave_go, sne_leave_call, sne_leave_raise, at3_0', at3_2', at4_0', at4_2', at5_0', at5_2', at5_3', at6_0', at6_2', at6_3', at6_5', starM, seqM_app, List.map_nil, List.map_cons, List.append_nil, lc2M, lc2F, compM_S, ↓compS_map, compS_ok, compS_if, compS_no, compS_nil, compC_S, ↓compCS_map, compCS_ok, compCS_nil, compP_S, ↓compPS_map, compPS_ok, col_af, col_at, col_ta, col_fa, bol_af, bol_ta, bol_fa, bol_at, rt_col, rt_colT, ite_then, allD_map, anyD_map, allD_nil, allD_flatM, dcM, onePM, gtD_n, flat_map1, inB_nats, inB_strs, dinD_s, dinD_i, ixDD_dks, ixDD_dki, ixDD_lst, atI_n, idxTD_m, mulTD_1, cutL_hi, cutL_lo, eqB_tab, eqB_nats, zipD_map, enumD_map, upD_nat, map_eN, map_eNs, eN, eNm, eNs, eMs, ePs, eAs, eTab, Bool.not_not, ninDD_tup, ninDD_str, ninDD_lst, inDD_lst, ninDD_dk, dninD_s, nz_tz, nz_tup, tzOf_tz, rgD_n, rng1_n, nat_add, nat_add1, wipeFl_nx, wipeR_nil, wipeR_cons, $args,*])
def cls0 (c : Cs) : List Addr := [c.AnswerError, c.InvalidProgram, c.InvalidMode, c.InvalidTable, c.InvalidRun, c.InvalidFact, c.InvalidDerivation, c.InvalidOperation, c.InvalidCommand, c.ParseError, c.UnknownName, c.UnknownSite, c.InvalidNumber, c.NothingToUndo, c.Refused, c.TooMany]
noncomputable def cl0 (c : Cs) (i : Nat) : Addr := (cls0 c).getD i 0
structure K00Ok (c : Cs) : Prop where
  nd : (cls0 c).Nodup
theorem cl0_inj {c : Cs} (hk : K00Ok c) {i j : Nat} (hi : i < 16) (hj : j < 16) : (cl0 c i = cl0 c j) ↔ i = j := by
  have e : (cls0 c).length = 16 := rfl
  constructor
  · intro h
    unfold cl0 at h
    rw [List.getD_eq_getElem?_getD, List.getD_eq_getElem?_getD, List.getElem?_eq_getElem (by rw [e]; exact hi), List.getElem?_eq_getElem (by rw [e]; exact hj)] at h
    exact (List.getElem_inj hk.nd).mp h
  · rintro rfl; rfl
theorem cl0_mem {c : Cs} (hk : K00Ok c) {i : Nat} (hi : i < 16) (js : List Nat) (hj : ∀ j ∈ js, j < 16) : decide (cl0 c i ∈ js.map (cl0 c)) = decide (i ∈ js) := by
  rw [decide_eq_decide, List.mem_map]
  constructor
  · rintro ⟨j, h, e⟩
    rw [cl0_inj hk (hj j h) hi] at e
    subst e; exact h
  · exact fun h => ⟨i, h, rfl⟩
theorem cl0_all {c : Cs} {i : Nat} (hi : i < 16) : cl0 c i ∈ [c.AnswerError, c.InvalidProgram, c.InvalidMode, c.InvalidTable, c.InvalidRun, c.InvalidFact, c.InvalidDerivation, c.InvalidOperation, c.InvalidCommand, c.ParseError, c.UnknownName, c.UnknownSite, c.InvalidNumber, c.NothingToUndo, c.Refused, c.TooMany] := by
  show cl0 c i ∈ cls0 c
  unfold cl0
  rw [List.getD_eq_getElem?_getD, List.getElem?_eq_getElem (show i < (cls0 c).length from hi)]
  exact List.getElem_mem _
/-- isinstance of the i-th class's -/
theorem isX0 {c : Cs} (hk : K00Ok c) {i : Nat} (hi : i < 16) (js : List Nat) (hj : ∀ j ∈ js, j < 16) (ns : List Str) (ds : List D) (S : List MO) : isXD [c.AnswerError, c.InvalidProgram, c.InvalidMode, c.InvalidTable, c.InvalidRun, c.InvalidFact, c.InvalidDerivation, c.InvalidOperation, c.InvalidCommand, c.ParseError, c.UnknownName, c.UnknownSite, c.InvalidNumber, c.NothingToUndo, c.Refused, c.TooMany] (js.map (cl0 c)) S (.xo (cl0 c i) ns ds) = some (.bl (decide (i ∈ js))) := by
  show (if cl0 c i ∈ [c.AnswerError, c.InvalidProgram, c.InvalidMode, c.InvalidTable, c.InvalidRun, c.InvalidFact, c.InvalidDerivation, c.InvalidOperation, c.InvalidCommand, c.ParseError, c.UnknownName, c.UnknownSite, c.InvalidNumber, c.NothingToUndo, c.Refused, c.TooMany] then some (D.bl (decide (cl0 c i ∈ js.map (cl0 c)))) else none) = _
  rw [if_pos (cl0_all hi), cl0_mem hk hi js hj]
noncomputable def den__law_kinds (c : Cs) : Rho → M Fl := (seqS (setS 1 (lstM (consM (isXM [c.AnswerError, c.InvalidProgram, c.InvalidMode, c.InvalidTable, c.InvalidRun, c.InvalidFact, c.InvalidDerivation, c.InvalidOperation, c.InvalidCommand, c.ParseError, c.UnknownName, c.UnknownSite, c.InvalidNumber, c.NothingToUndo, c.Refused, c.TooMany] [c.AnswerError, c.InvalidProgram, c.InvalidMode, c.InvalidTable, c.InvalidRun, c.InvalidFact, c.InvalidDerivation, c.InvalidOperation, c.InvalidCommand, c.ParseError] (fun ρ => lift (slot ρ 0))) (consM (isXM [c.AnswerError, c.InvalidProgram, c.InvalidMode, c.InvalidTable, c.InvalidRun, c.InvalidFact, c.InvalidDerivation, c.InvalidOperation, c.InvalidCommand, c.ParseError, c.UnknownName, c.UnknownSite, c.InvalidNumber, c.NothingToUndo, c.Refused, c.TooMany] [c.InvalidProgram] (fun ρ => lift (slot ρ 0))) (consM (isXM [c.AnswerError, c.InvalidProgram, c.InvalidMode, c.InvalidTable, c.InvalidRun, c.InvalidFact, c.InvalidDerivation, c.InvalidOperation, c.InvalidCommand, c.ParseError, c.UnknownName, c.UnknownSite, c.InvalidNumber, c.NothingToUndo, c.Refused, c.TooMany] [c.InvalidMode] (fun ρ => lift (slot ρ 0))) (fun _ => pure [])))))) (seqS (setS 1 (do2 (fun ρ => lift (slot ρ 1)) (lstM (consM (isXM [c.AnswerError, c.InvalidProgram, c.InvalidMode, c.InvalidTable, c.InvalidRun, c.InvalidFact, c.InvalidDerivation, c.InvalidOperation, c.InvalidCommand, c.ParseError, c.UnknownName, c.UnknownSite, c.InvalidNumber, c.NothingToUndo, c.Refused, c.TooMany] [c.InvalidTable] (fun ρ => lift (slot ρ 0))) (consM (isXM [c.AnswerError, c.InvalidProgram, c.InvalidMode, c.InvalidTable, c.InvalidRun, c.InvalidFact, c.InvalidDerivation, c.InvalidOperation, c.InvalidCommand, c.ParseError, c.UnknownName, c.UnknownSite, c.InvalidNumber, c.NothingToUndo, c.Refused, c.TooMany] [c.InvalidRun] (fun ρ => lift (slot ρ 0))) (consM (isXM [c.AnswerError, c.InvalidProgram, c.InvalidMode, c.InvalidTable, c.InvalidRun, c.InvalidFact, c.InvalidDerivation, c.InvalidOperation, c.InvalidCommand, c.ParseError, c.UnknownName, c.UnknownSite, c.InvalidNumber, c.NothingToUndo, c.Refused, c.TooMany] [c.InvalidFact] (fun ρ => lift (slot ρ 0))) (fun _ => pure []))))) addD)) (seqS (setS 1 (do2 (fun ρ => lift (slot ρ 1)) (lstM (consM (isXM [c.AnswerError, c.InvalidProgram, c.InvalidMode, c.InvalidTable, c.InvalidRun, c.InvalidFact, c.InvalidDerivation, c.InvalidOperation, c.InvalidCommand, c.ParseError, c.UnknownName, c.UnknownSite, c.InvalidNumber, c.NothingToUndo, c.Refused, c.TooMany] [c.InvalidDerivation] (fun ρ => lift (slot ρ 0))) (consM (isXM [c.AnswerError, c.InvalidProgram, c.InvalidMode, c.InvalidTable, c.InvalidRun, c.InvalidFact, c.InvalidDerivation, c.InvalidOperation, c.InvalidCommand, c.ParseError, c.UnknownName, c.UnknownSite, c.InvalidNumber, c.NothingToUndo, c.Refused, c.TooMany] [c.InvalidOperation] (fun ρ => lift (slot ρ 0))) (fun _ => pure [])))) addD)) (retS (do2 (fun ρ => lift (slot ρ 1)) (lstM (consM (isXM [c.AnswerError, c.InvalidProgram, c.InvalidMode, c.InvalidTable, c.InvalidRun, c.InvalidFact, c.InvalidDerivation, c.InvalidOperation, c.InvalidCommand, c.ParseError, c.UnknownName, c.UnknownSite, c.InvalidNumber, c.NothingToUndo, c.Refused, c.TooMany] [c.InvalidCommand] (fun ρ => lift (slot ρ 0))) (consM (isXM [c.AnswerError, c.InvalidProgram, c.InvalidMode, c.InvalidTable, c.InvalidRun, c.InvalidFact, c.InvalidDerivation, c.InvalidOperation, c.InvalidCommand, c.ParseError, c.UnknownName, c.UnknownSite, c.InvalidNumber, c.NothingToUndo, c.Refused, c.TooMany] [c.ParseError] (fun ρ => lift (slot ρ 0))) (consM (isXM [c.AnswerError, c.InvalidProgram, c.InvalidMode, c.InvalidTable, c.InvalidRun, c.InvalidFact, c.InvalidDerivation, c.InvalidOperation, c.InvalidCommand, c.ParseError, c.UnknownName, c.UnknownSite, c.InvalidNumber, c.NothingToUndo, c.Refused, c.TooMany] [c.AnswerError, c.InvalidProgram, c.InvalidMode, c.InvalidTable, c.InvalidRun, c.InvalidFact, c.InvalidDerivation, c.InvalidOperation, c.InvalidCommand, c.ParseError] (fun ρ => lift (slot ρ 0))) (fun _ => pure []))))) addD)))))
noncomputable def F__law_kinds (c : Cs) : List D → M D := fun ds => den__law_kinds c (rho0 2 ds) >>= retF
theorem le__law_kinds (c : Cs) (ds : List D) (S : List MO) (hl : ds.length = 1) (hc : D.clAll S.length ds = true) (hf : D.fitAll ds = true) (hs : SCl S) : Le S.length (F__law_kinds c ds S) ((den__law_kinds c (rho0 2 ds) >>= retF) S) := Le.refl
def res_law_kinds (i : Nat) : D := .lst [.bl (decide (i ∈ ([0, 1, 2, 3, 4, 5, 6, 7, 8, 9] : List Nat))), .bl (decide (i ∈ ([1] : List Nat))), .bl (decide (i ∈ ([2] : List Nat))), .bl (decide (i ∈ ([3] : List Nat))), .bl (decide (i ∈ ([4] : List Nat))), .bl (decide (i ∈ ([5] : List Nat))), .bl (decide (i ∈ ([6] : List Nat))), .bl (decide (i ∈ ([7] : List Nat))), .bl (decide (i ∈ ([8] : List Nat))), .bl (decide (i ∈ ([9] : List Nat))), .bl (decide (i ∈ ([0, 1, 2, 3, 4, 5, 6, 7, 8, 9] : List Nat)))]
theorem ex_law_kinds {c : Cs} (hk : K00Ok c) {i : Nat} (hi : i < 16) (ns : List Str) (ds : List D) (S : List MO) : F__law_kinds c [.xo (cl0 c i) ns ds] S = .ok (res_law_kinds i) S := by
  have q0 : ∀ S, isXD [c.AnswerError, c.InvalidProgram, c.InvalidMode, c.InvalidTable, c.InvalidRun, c.InvalidFact, c.InvalidDerivation, c.InvalidOperation, c.InvalidCommand, c.ParseError, c.UnknownName, c.UnknownSite, c.InvalidNumber, c.NothingToUndo, c.Refused, c.TooMany] [c.AnswerError, c.InvalidProgram, c.InvalidMode, c.InvalidTable, c.InvalidRun, c.InvalidFact, c.InvalidDerivation, c.InvalidOperation, c.InvalidCommand, c.ParseError] S (.xo (cl0 c i) ns ds) = some (.bl (decide (i ∈ ([0, 1, 2, 3, 4, 5, 6, 7, 8, 9] : List Nat)))) := fun S => isX0 hk hi [0, 1, 2, 3, 4, 5, 6, 7, 8, 9] (by decide) ns ds S
  have q1 : ∀ S, isXD [c.AnswerError, c.InvalidProgram, c.InvalidMode, c.InvalidTable, c.InvalidRun, c.InvalidFact, c.InvalidDerivation, c.InvalidOperation, c.InvalidCommand, c.ParseError, c.UnknownName, c.UnknownSite, c.InvalidNumber, c.NothingToUndo, c.Refused, c.TooMany] [c.InvalidProgram] S (.xo (cl0 c i) ns ds) = some (.bl (decide (i ∈ ([1] : List Nat)))) := fun S => isX0 hk hi [1] (by decide) ns ds S
  have q2 : ∀ S, isXD [c.AnswerError, c.InvalidProgram, c.InvalidMode, c.InvalidTable, c.InvalidRun, c.InvalidFact, c.InvalidDerivation, c.InvalidOperation, c.InvalidCommand, c.ParseError, c.UnknownName, c.UnknownSite, c.InvalidNumber, c.NothingToUndo, c.Refused, c.TooMany] [c.InvalidMode] S (.xo (cl0 c i) ns ds) = some (.bl (decide (i ∈ ([2] : List Nat)))) := fun S => isX0 hk hi [2] (by decide) ns ds S
  have q3 : ∀ S, isXD [c.AnswerError, c.InvalidProgram, c.InvalidMode, c.InvalidTable, c.InvalidRun, c.InvalidFact, c.InvalidDerivation, c.InvalidOperation, c.InvalidCommand, c.ParseError, c.UnknownName, c.UnknownSite, c.InvalidNumber, c.NothingToUndo, c.Refused, c.TooMany] [c.InvalidTable] S (.xo (cl0 c i) ns ds) = some (.bl (decide (i ∈ ([3] : List Nat)))) := fun S => isX0 hk hi [3] (by decide) ns ds S
  have q4 : ∀ S, isXD [c.AnswerError, c.InvalidProgram, c.InvalidMode, c.InvalidTable, c.InvalidRun, c.InvalidFact, c.InvalidDerivation, c.InvalidOperation, c.InvalidCommand, c.ParseError, c.UnknownName, c.UnknownSite, c.InvalidNumber, c.NothingToUndo, c.Refused, c.TooMany] [c.InvalidRun] S (.xo (cl0 c i) ns ds) = some (.bl (decide (i ∈ ([4] : List Nat)))) := fun S => isX0 hk hi [4] (by decide) ns ds S
  have q5 : ∀ S, isXD [c.AnswerError, c.InvalidProgram, c.InvalidMode, c.InvalidTable, c.InvalidRun, c.InvalidFact, c.InvalidDerivation, c.InvalidOperation, c.InvalidCommand, c.ParseError, c.UnknownName, c.UnknownSite, c.InvalidNumber, c.NothingToUndo, c.Refused, c.TooMany] [c.InvalidFact] S (.xo (cl0 c i) ns ds) = some (.bl (decide (i ∈ ([5] : List Nat)))) := fun S => isX0 hk hi [5] (by decide) ns ds S
  have q6 : ∀ S, isXD [c.AnswerError, c.InvalidProgram, c.InvalidMode, c.InvalidTable, c.InvalidRun, c.InvalidFact, c.InvalidDerivation, c.InvalidOperation, c.InvalidCommand, c.ParseError, c.UnknownName, c.UnknownSite, c.InvalidNumber, c.NothingToUndo, c.Refused, c.TooMany] [c.InvalidDerivation] S (.xo (cl0 c i) ns ds) = some (.bl (decide (i ∈ ([6] : List Nat)))) := fun S => isX0 hk hi [6] (by decide) ns ds S
  have q7 : ∀ S, isXD [c.AnswerError, c.InvalidProgram, c.InvalidMode, c.InvalidTable, c.InvalidRun, c.InvalidFact, c.InvalidDerivation, c.InvalidOperation, c.InvalidCommand, c.ParseError, c.UnknownName, c.UnknownSite, c.InvalidNumber, c.NothingToUndo, c.Refused, c.TooMany] [c.InvalidOperation] S (.xo (cl0 c i) ns ds) = some (.bl (decide (i ∈ ([7] : List Nat)))) := fun S => isX0 hk hi [7] (by decide) ns ds S
  have q8 : ∀ S, isXD [c.AnswerError, c.InvalidProgram, c.InvalidMode, c.InvalidTable, c.InvalidRun, c.InvalidFact, c.InvalidDerivation, c.InvalidOperation, c.InvalidCommand, c.ParseError, c.UnknownName, c.UnknownSite, c.InvalidNumber, c.NothingToUndo, c.Refused, c.TooMany] [c.InvalidCommand] S (.xo (cl0 c i) ns ds) = some (.bl (decide (i ∈ ([8] : List Nat)))) := fun S => isX0 hk hi [8] (by decide) ns ds S
  have q9 : ∀ S, isXD [c.AnswerError, c.InvalidProgram, c.InvalidMode, c.InvalidTable, c.InvalidRun, c.InvalidFact, c.InvalidDerivation, c.InvalidOperation, c.InvalidCommand, c.ParseError, c.UnknownName, c.UnknownSite, c.InvalidNumber, c.NothingToUndo, c.Refused, c.TooMany] [c.ParseError] S (.xo (cl0 c i) ns ds) = some (.bl (decide (i ∈ ([9] : List Nat)))) := fun S => isX0 hk hi [9] (by decide) ns ds S
  have q10 : ∀ S, isXD [c.AnswerError, c.InvalidProgram, c.InvalidMode, c.InvalidTable, c.InvalidRun, c.InvalidFact, c.InvalidDerivation, c.InvalidOperation, c.InvalidCommand, c.ParseError, c.UnknownName, c.UnknownSite, c.InvalidNumber, c.NothingToUndo, c.Refused, c.TooMany] [c.AnswerError, c.InvalidProgram, c.InvalidMode, c.InvalidTable, c.InvalidRun, c.InvalidFact, c.InvalidDerivation, c.InvalidOperation, c.InvalidCommand, c.ParseError] S (.xo (cl0 c i) ns ds) = some (.bl (decide (i ∈ ([0, 1, 2, 3, 4, 5, 6, 7, 8, 9] : List Nat)))) := fun S => isX0 hk hi [0, 1, 2, 3, 4, 5, 6, 7, 8, 9] (by decide) ns ds S
  show (den__law_kinds c [some (.xo (cl0 c i) ns ds), none] >>= retF) S = _
  unfold res_law_kinds
  generalize D.xo (cl0 c i) ns ds = X at *
  have l3 : 3 ≤ sizeLine := by decide
  have l2 : 2 ≤ sizeLine := by decide
  have l5 : 5 ≤ sizeLine := by decide
  have l6 : 6 ≤ sizeLine := by decide
  have l8 : 8 ≤ sizeLine := by decide
  have l9 : 9 ≤ sizeLine := by decide
  have l11 : 11 ≤ sizeLine := by decide
  simp! [den__law_kinds, isXM, opd1, q0, q1, q2, q3, q4, q5, q6, q7, q8, q9, q10, List.cons_append, List.nil_append, l2, l3, l5, l6, l8, l9, l11]
noncomputable def den__law_others (c : Cs) : Rho → M Fl := (seqS (setS 1 (lstM (consM (isXM [c.AnswerError, c.InvalidProgram, c.InvalidMode, c.InvalidTable, c.InvalidRun, c.InvalidFact, c.InvalidDerivation, c.InvalidOperation, c.InvalidCommand, c.ParseError, c.UnknownName, c.UnknownSite, c.InvalidNumber, c.NothingToUndo, c.Refused, c.TooMany] [c.UnknownName] (fun ρ => lift (slot ρ 0))) (consM (isXM [c.AnswerError, c.InvalidProgram, c.InvalidMode, c.InvalidTable, c.InvalidRun, c.InvalidFact, c.InvalidDerivation, c.InvalidOperation, c.InvalidCommand, c.ParseError, c.UnknownName, c.UnknownSite, c.InvalidNumber, c.NothingToUndo, c.Refused, c.TooMany] [c.UnknownSite] (fun ρ => lift (slot ρ 0))) (consM (isXM [c.AnswerError, c.InvalidProgram, c.InvalidMode, c.InvalidTable, c.InvalidRun, c.InvalidFact, c.InvalidDerivation, c.InvalidOperation, c.InvalidCommand, c.ParseError, c.UnknownName, c.UnknownSite, c.InvalidNumber, c.NothingToUndo, c.Refused, c.TooMany] [c.InvalidNumber] (fun ρ => lift (slot ρ 0))) (fun _ => pure [])))))) (seqS (setS 1 (do2 (fun ρ => lift (slot ρ 1)) (lstM (consM (isXM [c.AnswerError, c.InvalidProgram, c.InvalidMode, c.InvalidTable, c.InvalidRun, c.InvalidFact, c.InvalidDerivation, c.InvalidOperation, c.InvalidCommand, c.ParseError, c.UnknownName, c.UnknownSite, c.InvalidNumber, c.NothingToUndo, c.Refused, c.TooMany] [c.NothingToUndo] (fun ρ => lift (slot ρ 0))) (consM (isXM [c.AnswerError, c.InvalidProgram, c.InvalidMode, c.InvalidTable, c.InvalidRun, c.InvalidFact, c.InvalidDerivation, c.InvalidOperation, c.InvalidCommand, c.ParseError, c.UnknownName, c.UnknownSite, c.InvalidNumber, c.NothingToUndo, c.Refused, c.TooMany] [c.Refused] (fun ρ => lift (slot ρ 0))) (consM (isXM [c.AnswerError, c.InvalidProgram, c.InvalidMode, c.InvalidTable, c.InvalidRun, c.InvalidFact, c.InvalidDerivation, c.InvalidOperation, c.InvalidCommand, c.ParseError, c.UnknownName, c.UnknownSite, c.InvalidNumber, c.NothingToUndo, c.Refused, c.TooMany] [c.TooMany] (fun ρ => lift (slot ρ 0))) (fun _ => pure []))))) addD)) (seqS (setS 1 (do2 (fun ρ => lift (slot ρ 1)) (lstM (consM (isXM [c.AnswerError, c.InvalidProgram, c.InvalidMode, c.InvalidTable, c.InvalidRun, c.InvalidFact, c.InvalidDerivation, c.InvalidOperation, c.InvalidCommand, c.ParseError, c.UnknownName, c.UnknownSite, c.InvalidNumber, c.NothingToUndo, c.Refused, c.TooMany] [c.UnknownName, c.UnknownSite] (fun ρ => lift (slot ρ 0))) (consM (isXM [c.AnswerError, c.InvalidProgram, c.InvalidMode, c.InvalidTable, c.InvalidRun, c.InvalidFact, c.InvalidDerivation, c.InvalidOperation, c.InvalidCommand, c.ParseError, c.UnknownName, c.UnknownSite, c.InvalidNumber, c.NothingToUndo, c.Refused, c.TooMany] [c.InvalidNumber] (fun ρ => lift (slot ρ 0))) (consM (isXM [c.AnswerError, c.InvalidProgram, c.InvalidMode, c.InvalidTable, c.InvalidRun, c.InvalidFact, c.InvalidDerivation, c.InvalidOperation, c.InvalidCommand, c.ParseError, c.UnknownName, c.UnknownSite, c.InvalidNumber, c.NothingToUndo, c.Refused, c.TooMany] [c.UnknownName, c.UnknownSite, c.InvalidNumber, c.NothingToUndo] (fun ρ => lift (slot ρ 0))) (fun _ => pure []))))) addD)) (retS (do2 (fun ρ => lift (slot ρ 1)) (lstM (consM (isXM [c.AnswerError, c.InvalidProgram, c.InvalidMode, c.InvalidTable, c.InvalidRun, c.InvalidFact, c.InvalidDerivation, c.InvalidOperation, c.InvalidCommand, c.ParseError, c.UnknownName, c.UnknownSite, c.InvalidNumber, c.NothingToUndo, c.Refused, c.TooMany] [c.Refused, c.TooMany] (fun ρ => lift (slot ρ 0))) (consM (isXM [c.AnswerError, c.InvalidProgram, c.InvalidMode, c.InvalidTable, c.InvalidRun, c.InvalidFact, c.InvalidDerivation, c.InvalidOperation, c.InvalidCommand, c.ParseError, c.UnknownName, c.UnknownSite, c.InvalidNumber, c.NothingToUndo, c.Refused, c.TooMany] [c.TooMany] (fun ρ => lift (slot ρ 0))) (fun _ => pure [])))) addD)))))
noncomputable def F__law_others (c : Cs) : List D → M D := fun ds => den__law_others c (rho0 2 ds) >>= retF
theorem le__law_others (c : Cs) (ds : List D) (S : List MO) (hl : ds.length = 1) (hc : D.clAll S.length ds = true) (hf : D.fitAll ds = true) (hs : SCl S) : Le S.length (F__law_others c ds S) ((den__law_others c (rho0 2 ds) >>= retF) S) := Le.refl
def res_law_others (i : Nat) : D := .lst [.bl (decide (i ∈ ([10] : List Nat))), .bl (decide (i ∈ ([11] : List Nat))), .bl (decide (i ∈ ([12] : List Nat))), .bl (decide (i ∈ ([13] : List Nat))), .bl (decide (i ∈ ([14] : List Nat))), .bl (decide (i ∈ ([15] : List Nat))), .bl (decide (i ∈ ([10, 11] : List Nat))), .bl (decide (i ∈ ([12] : List Nat))), .bl (decide (i ∈ ([10, 11, 12, 13] : List Nat))), .bl (decide (i ∈ ([14, 15] : List Nat))), .bl (decide (i ∈ ([15] : List Nat)))]
theorem ex_law_others {c : Cs} (hk : K00Ok c) {i : Nat} (hi : i < 16) (ns : List Str) (ds : List D) (S : List MO) : F__law_others c [.xo (cl0 c i) ns ds] S = .ok (res_law_others i) S := by
  have q0 : ∀ S, isXD [c.AnswerError, c.InvalidProgram, c.InvalidMode, c.InvalidTable, c.InvalidRun, c.InvalidFact, c.InvalidDerivation, c.InvalidOperation, c.InvalidCommand, c.ParseError, c.UnknownName, c.UnknownSite, c.InvalidNumber, c.NothingToUndo, c.Refused, c.TooMany] [c.UnknownName] S (.xo (cl0 c i) ns ds) = some (.bl (decide (i ∈ ([10] : List Nat)))) := fun S => isX0 hk hi [10] (by decide) ns ds S
  have q1 : ∀ S, isXD [c.AnswerError, c.InvalidProgram, c.InvalidMode, c.InvalidTable, c.InvalidRun, c.InvalidFact, c.InvalidDerivation, c.InvalidOperation, c.InvalidCommand, c.ParseError, c.UnknownName, c.UnknownSite, c.InvalidNumber, c.NothingToUndo, c.Refused, c.TooMany] [c.UnknownSite] S (.xo (cl0 c i) ns ds) = some (.bl (decide (i ∈ ([11] : List Nat)))) := fun S => isX0 hk hi [11] (by decide) ns ds S
  have q2 : ∀ S, isXD [c.AnswerError, c.InvalidProgram, c.InvalidMode, c.InvalidTable, c.InvalidRun, c.InvalidFact, c.InvalidDerivation, c.InvalidOperation, c.InvalidCommand, c.ParseError, c.UnknownName, c.UnknownSite, c.InvalidNumber, c.NothingToUndo, c.Refused, c.TooMany] [c.InvalidNumber] S (.xo (cl0 c i) ns ds) = some (.bl (decide (i ∈ ([12] : List Nat)))) := fun S => isX0 hk hi [12] (by decide) ns ds S
  have q3 : ∀ S, isXD [c.AnswerError, c.InvalidProgram, c.InvalidMode, c.InvalidTable, c.InvalidRun, c.InvalidFact, c.InvalidDerivation, c.InvalidOperation, c.InvalidCommand, c.ParseError, c.UnknownName, c.UnknownSite, c.InvalidNumber, c.NothingToUndo, c.Refused, c.TooMany] [c.NothingToUndo] S (.xo (cl0 c i) ns ds) = some (.bl (decide (i ∈ ([13] : List Nat)))) := fun S => isX0 hk hi [13] (by decide) ns ds S
  have q4 : ∀ S, isXD [c.AnswerError, c.InvalidProgram, c.InvalidMode, c.InvalidTable, c.InvalidRun, c.InvalidFact, c.InvalidDerivation, c.InvalidOperation, c.InvalidCommand, c.ParseError, c.UnknownName, c.UnknownSite, c.InvalidNumber, c.NothingToUndo, c.Refused, c.TooMany] [c.Refused] S (.xo (cl0 c i) ns ds) = some (.bl (decide (i ∈ ([14] : List Nat)))) := fun S => isX0 hk hi [14] (by decide) ns ds S
  have q5 : ∀ S, isXD [c.AnswerError, c.InvalidProgram, c.InvalidMode, c.InvalidTable, c.InvalidRun, c.InvalidFact, c.InvalidDerivation, c.InvalidOperation, c.InvalidCommand, c.ParseError, c.UnknownName, c.UnknownSite, c.InvalidNumber, c.NothingToUndo, c.Refused, c.TooMany] [c.TooMany] S (.xo (cl0 c i) ns ds) = some (.bl (decide (i ∈ ([15] : List Nat)))) := fun S => isX0 hk hi [15] (by decide) ns ds S
  have q6 : ∀ S, isXD [c.AnswerError, c.InvalidProgram, c.InvalidMode, c.InvalidTable, c.InvalidRun, c.InvalidFact, c.InvalidDerivation, c.InvalidOperation, c.InvalidCommand, c.ParseError, c.UnknownName, c.UnknownSite, c.InvalidNumber, c.NothingToUndo, c.Refused, c.TooMany] [c.UnknownName, c.UnknownSite] S (.xo (cl0 c i) ns ds) = some (.bl (decide (i ∈ ([10, 11] : List Nat)))) := fun S => isX0 hk hi [10, 11] (by decide) ns ds S
  have q7 : ∀ S, isXD [c.AnswerError, c.InvalidProgram, c.InvalidMode, c.InvalidTable, c.InvalidRun, c.InvalidFact, c.InvalidDerivation, c.InvalidOperation, c.InvalidCommand, c.ParseError, c.UnknownName, c.UnknownSite, c.InvalidNumber, c.NothingToUndo, c.Refused, c.TooMany] [c.InvalidNumber] S (.xo (cl0 c i) ns ds) = some (.bl (decide (i ∈ ([12] : List Nat)))) := fun S => isX0 hk hi [12] (by decide) ns ds S
  have q8 : ∀ S, isXD [c.AnswerError, c.InvalidProgram, c.InvalidMode, c.InvalidTable, c.InvalidRun, c.InvalidFact, c.InvalidDerivation, c.InvalidOperation, c.InvalidCommand, c.ParseError, c.UnknownName, c.UnknownSite, c.InvalidNumber, c.NothingToUndo, c.Refused, c.TooMany] [c.UnknownName, c.UnknownSite, c.InvalidNumber, c.NothingToUndo] S (.xo (cl0 c i) ns ds) = some (.bl (decide (i ∈ ([10, 11, 12, 13] : List Nat)))) := fun S => isX0 hk hi [10, 11, 12, 13] (by decide) ns ds S
  have q9 : ∀ S, isXD [c.AnswerError, c.InvalidProgram, c.InvalidMode, c.InvalidTable, c.InvalidRun, c.InvalidFact, c.InvalidDerivation, c.InvalidOperation, c.InvalidCommand, c.ParseError, c.UnknownName, c.UnknownSite, c.InvalidNumber, c.NothingToUndo, c.Refused, c.TooMany] [c.Refused, c.TooMany] S (.xo (cl0 c i) ns ds) = some (.bl (decide (i ∈ ([14, 15] : List Nat)))) := fun S => isX0 hk hi [14, 15] (by decide) ns ds S
  have q10 : ∀ S, isXD [c.AnswerError, c.InvalidProgram, c.InvalidMode, c.InvalidTable, c.InvalidRun, c.InvalidFact, c.InvalidDerivation, c.InvalidOperation, c.InvalidCommand, c.ParseError, c.UnknownName, c.UnknownSite, c.InvalidNumber, c.NothingToUndo, c.Refused, c.TooMany] [c.TooMany] S (.xo (cl0 c i) ns ds) = some (.bl (decide (i ∈ ([15] : List Nat)))) := fun S => isX0 hk hi [15] (by decide) ns ds S
  show (den__law_others c [some (.xo (cl0 c i) ns ds), none] >>= retF) S = _
  unfold res_law_others
  generalize D.xo (cl0 c i) ns ds = X at *
  have l3 : 3 ≤ sizeLine := by decide
  have l2 : 2 ≤ sizeLine := by decide
  have l5 : 5 ≤ sizeLine := by decide
  have l6 : 6 ≤ sizeLine := by decide
  have l8 : 8 ≤ sizeLine := by decide
  have l9 : 9 ≤ sizeLine := by decide
  have l11 : 11 ≤ sizeLine := by decide
  simp! [den__law_others, isXM, opd1, q0, q1, q2, q3, q4, q5, q6, q7, q8, q9, q10, List.cons_append, List.nil_append, l2, l3, l5, l6, l8, l9, l11]
noncomputable def den__law_messages (c : Cs) : Rho → M Fl := (seqS (setS 1 (lstM (consM (xo1M c.AnswerError (fun ρ => lift (slot ρ 0))) (consM (xo1M c.InvalidProgram (fun ρ => lift (slot ρ 0))) (consM (xo1M c.InvalidMode (fun ρ => lift (slot ρ 0))) (consM (xo1M c.InvalidTable (fun ρ => lift (slot ρ 0))) (consM (xo1M c.InvalidRun (fun ρ => lift (slot ρ 0))) (fun _ => pure [])))))))) (retS (do2 (fun ρ => lift (slot ρ 1)) (lstM (consM (xo1M c.InvalidFact (fun ρ => lift (slot ρ 0))) (consM (xo1M c.InvalidDerivation (fun ρ => lift (slot ρ 0))) (consM (xo1M c.InvalidOperation (fun ρ => lift (slot ρ 0))) (consM (xo1M c.InvalidCommand (fun ρ => lift (slot ρ 0))) (fun _ => pure [])))))) addD)))
noncomputable def F__law_messages (c : Cs) : List D → M D := fun ds => den__law_messages c (rho0 2 ds) >>= retF
theorem le__law_messages (c : Cs) (ds : List D) (S : List MO) (hl : ds.length = 1) (hc : D.clAll S.length ds = true) (hf : D.fitAll ds = true) (hs : SCl S) : Le S.length (F__law_messages c ds S) ((den__law_messages c (rho0 2 ds) >>= retF) S) := Le.refl
theorem ex_messages {c : Cs} (x : Str) (S : List MO) : F__law_messages c [.str x] S = .ok (.lst ((List.range 9).map fun i => .xo (cl0 c i) [] [])) S := by
  show (den__law_messages c [some (.str x), none] >>= retF) S = .ok (.lst [.xo c.AnswerError [] [], .xo c.InvalidProgram [] [], .xo c.InvalidMode [] [], .xo c.InvalidTable [] [], .xo c.InvalidRun [] [], .xo c.InvalidFact [] [], .xo c.InvalidDerivation [] [], .xo c.InvalidOperation [] [], .xo c.InvalidCommand [] []]) S
  have l5 : 5 ≤ sizeLine := by decide
  have l4 : 4 ≤ sizeLine := by decide
  have l9 : 9 ≤ sizeLine := by decide
  simp! [den__law_messages, xo1M, l4, l5, l9, List.cons_append, List.nil_append]
theorem modesB_mono {s : List Nat} {t k : Nat} (h : modesB s t = true) (hk : t ≤ k) : modesB s k = true := by
  unfold modesB belowB at h ⊢
  simp only [Bool.and_eq_true, List.all_eq_true, decide_eq_true_eq] at h ⊢
  exact ⟨⟨fun x hx => Nat.lt_of_lt_of_le (h.1.1 x hx) hk, h.1.2⟩, h.2⟩
theorem modesB_mem {s : List Nat} {t : Nat} (h : modesB s t = true) {x : Nat} (hx : x ∈ s) : x < t := by
  unfold modesB belowB at h
  simp only [Bool.and_eq_true, List.all_eq_true, decide_eq_true_eq] at h
  exact h.1.1 x hx
theorem modesB_len {s : List Nat} {t : Nat} (h : modesB s t = true) : s.length ≤ t := by
  unfold modesB at h
  rw [Bool.and_eq_true] at h
  exact ascN_len h.1
theorem NMS_ok : ∀ x ∈ NMS, isNameS x = true := by
  intro x hx
  simp only [NMS, List.mem_cons, List.not_mem_nil, or_false] at hx
  rcases hx with rfl | rfl | rfl | rfl <;> decide +kernel
theorem SGS_ok : ∀ ss ∈ SGS, sigsOk ss = true := by
  intro x hx
  simp only [SGS, List.mem_cons, List.not_mem_nil, or_false] at hx
  rcases hx with rfl | rfl | rfl | rfl | rfl <;> decide +kernel
theorem sigsOk_of {ss : List Str} (h : sigsOk ss = true) : ss.length ≤ 3 ∧ (∀ x ∈ ss, isNameS x = true) ∧ ascS ss = true := by
  unfold sigsOk at h
  simp only [Bool.and_eq_true, decide_eq_true_eq, List.all_eq_true] at h
  refine ⟨h.1, h.2.1, ?_⟩
  have := h.2.2
  rw [asc_strsG] at this
  exact this
theorem ltS_trans (a b c : Str) (h1 : ltS a b = true) (h2 : ltS b c = true) : ltS a c = true := by
  simp only [ltS, decide_eq_true_eq] at *
  exact List.lt_trans h1 h2
theorem ascS_sub {a b : List Str} (h : a.Sublist b) (hb : ascS b = true) : ascS a = true := by
  unfold ascS at *
  rw [ascG_pw ltS_trans] at *
  exact hb.sublist h
theorem ascP_firsts {l : List (Nat × Nat)} (h : (l.map (·.1)).Pairwise (· < ·)) : ascP l = true := by
  unfold ascP
  rw [ascG_pw ltP_trans]
  rw [List.pairwise_map] at h
  refine h.imp fun {a b} q => ?_
  simp only [ltP, Bool.or_eq_true, Bool.and_eq_true, decide_eq_true_eq]
  exact .inl q
theorem AnsG_ok {t p : Nat} {ns ss : List Str} {a : Ans} (h : AnsG t p ns a) (ht : t ≤ 4) (hns : ∀ x ∈ ns, isNameS x = true) (hss : isNameS a.sig = true) : ansB a p = true := by
  obtain ⟨h1, h2, h3⟩ := h
  have hp : (a.un.map (·.1)).Pairwise (· < ·) := List.Pairwise.sublist h2 List.pairwise_lt_range
  unfold ansB pairsB
  simp only [Bool.and_eq_true, List.all_eq_true, decide_eq_true_eq]
  refine ⟨hss, hns _ h1, ⟨fun q hq => ⟨?_, h3 q hq⟩, ascP_firsts hp⟩, (ascN_pw _).mpr hp⟩
  have := List.mem_range.mp (h2.subset (List.mem_map_of_mem hq))
  omega
theorem MvG_ok {t p : Nat} {ns ss : List Str} {m : Mv} (h : MvG t p ns ss m) (ht : t ≤ 4) (hns : ∀ x ∈ ns, isNameS x = true) (hss : sigsOk ss = true) : mvB m p = true := by
  obtain ⟨s1, s2, s3⟩ := sigsOk_of hss
  cases m with
  | go a b ps =>
    obtain ⟨h1, h2, h3, h4, h5, h6⟩ := h
    unfold mvB pairsB
    simp only [Bool.and_eq_true, List.all_eq_true, decide_eq_true_eq, Bool.not_eq_true', List.isEmpty_eq_false_iff]
    exact ⟨h1, h2, h3, fun q hq => by have := h6 q hq; omega, h4⟩
  | call a b q s w =>
    obtain ⟨h1, h2, h3, h4, h5, h6⟩ := h
    unfold mvB anssB
    simp only [Bool.and_eq_true, List.all_eq_true, decide_eq_true_eq]
    exact ⟨h1, h2, hns _ h3, modesB_mono h4 ht, fun x hx => AnsG_ok (ss := ss) (h6 x hx) ht hns (s2 _ (h5.subset (List.mem_map_of_mem hx))), ascS_sub h5 s3⟩
  | raise a b g s =>
    obtain ⟨h1, h2, h3, h4⟩ := h
    unfold mvB
    simp only [Bool.and_eq_true, decide_eq_true_eq]
    exact ⟨h1, h2, s2 _ h3, modesB_mono h4 ht⟩
  | leave a s =>
    obtain ⟨h1, h2⟩ := h
    unfold mvB
    simp only [Bool.and_eq_true, decide_eq_true_eq]
    exact ⟨h1, modesB_mono h2 ht⟩
theorem MvG_small {t p : Nat} {ns ss : List Str} {m : Mv} (h : MvG t p ns ss m) (ht : t ≤ 4) (hss : ss.length ≤ 3) : small m = true := by
  cases m with
  | go a b ps => obtain ⟨h1, h2, h3, h4, h5, h6⟩ := h; unfold small; exact decide_eq_true (by omega)
  | call a b q s w =>
    obtain ⟨h1, h2, h3, h4, h5, h6⟩ := h
    unfold small
    simp only [Bool.and_eq_true, List.all_eq_true, decide_eq_true_eq]
    have := modesB_len h4
    have := h5.length_le
    rw [List.length_map] at this
    refine ⟨by omega, by omega, fun x hx => ?_⟩
    have := (h6 x hx).2.1.length_le
    rw [List.length_map, List.length_range] at this
    omega
  | raise a b g s => obtain ⟨h1, h2, h3, h4⟩ := h; unfold small; have := modesB_len h4; exact decide_eq_true (by omega)
  | leave a s => obtain ⟨h1, h2⟩ := h; unfold small; have := modesB_len h2; exact decide_eq_true (by omega)
section
variable {p : Pl} (h : PlG p)
include h
theorem PlG.names : ∀ x ∈ p.rows.map (·.name), isNameS x = true := fun x hx => by
  obtain ⟨r, hr, rfl⟩ := List.mem_map.mp hx
  exact NMS_ok _ (h.nm r hr)
theorem PlG.pr {r : Pr} (hr : r ∈ p.rows) : validPr r = true := by
  obtain ⟨a1, a2, a3, a4, a5⟩ := h.row r hr
  unfold validPr
  simp only [Bool.and_eq_true, List.all_eq_true, decide_eq_true_eq]
  refine ⟨NMS_ok _ (h.nm r hr), a1, by omega, by omega, fun m hm => ?_⟩
  rw [isMove_e]
  exact MvG_ok (a5 m hm) (by have := h.t3; omega) h.names (SGS_ok _ h.sg)
theorem PlG.lenN : p.rows.length ≤ 4 := by
  have h1 : p.rows.map (·.name) ⊆ NMS := fun x hx => by
    obtain ⟨r, hr, rfl⟩ := List.mem_map.mp hx
    exact h.nm r hr
  have := List.Nodup.length_le_of_subset h.nd h1
  rw [List.length_map] at this
  exact this
theorem PlG.small : smallPs p.rows := by
  refine ⟨by have := h.lenN; omega, fun r hr => ?_⟩
  obtain ⟨a1, a2, a3, a4, a5⟩ := h.row r hr
  exact ⟨by omega, fun m hm => MvG_small (a5 m hm) (by have := h.t3; omega) (sigsOk_of (SGS_ok _ h.sg)).1⟩
theorem PlG.procs : procsB p.rows p.total p.sigs = true := by
  have hmv : ∀ m ∈ movesOf p.rows, ∃ q, MvG p.total q (p.rows.map (·.name)) p.sigs m := fun m hm => by
    obtain ⟨r, hr, hm⟩ := List.mem_flatMap.mp hm
    exact ⟨_, (h.row r hr).2.2.2.2 m hm⟩
  unfold procsB
  simp only [Bool.and_eq_true, List.all_eq_true, decide_eq_true_eq]
  refine ⟨List.length_pos_iff.mpr h.ne, by have := h.lenN; omega, h.nd, fun x hx => ?_, fun x hx => ?_, fun x hx => ?_⟩
  · obtain ⟨m, hm, hx⟩ := List.mem_flatMap.mp hx
    obtain ⟨q, g⟩ := hmv m hm
    cases m with
    | call a b n s w =>
      obtain ⟨h1, h2, h3, h4, h5, h6⟩ := g
      rcases List.mem_cons.mp hx with rfl | hx
      · exact h3
      · obtain ⟨y, hy, rfl⟩ := List.mem_map.mp hx
        exact (h6 y hy).1
    | _ => cases hx
  · obtain ⟨m, hm, hx⟩ := List.mem_flatMap.mp hx
    obtain ⟨q, g⟩ := hmv m hm
    cases m with
    | call a b n s w =>
      obtain ⟨h1, h2, h3, h4, h5, h6⟩ := g
      exact h5.subset hx
    | raise a b n s =>
      obtain ⟨h1, h2, h3, h4⟩ := g
      simp only [sigsOf, List.mem_singleton] at hx
      rw [hx]; exact h3
    | _ => cases hx
  · obtain ⟨m, hm, hx⟩ := List.mem_flatMap.mp hx
    obtain ⟨q, g⟩ := hmv m hm
    cases m with
    | call a b n s w =>
      obtain ⟨h1, h2, h3, h4, h5, h6⟩ := g
      rcases List.mem_append.mp hx with hx | hx
      · exact modesB_mem h4 hx
      · obtain ⟨y, hy, hx⟩ := List.mem_flatMap.mp hx
        exact List.mem_range.mp ((h6 y hy).2.1.subset hx)
    | raise a b n s =>
      obtain ⟨h1, h2, h3, h4⟩ := g
      exact modesB_mem h4 hx
    | leave a s =>
      obtain ⟨h1, h2⟩ := g
      exact modesB_mem h2 hx
    | go a b ps =>
      obtain ⟨h1, h2, h3, h4, h5, h6⟩ := g
      obtain ⟨y, hy, hx⟩ := List.mem_flatMap.mp hx
      have := h6 y hy
      simp only [List.mem_cons, List.not_mem_nil, or_false] at hx
      rcases hx with rfl | rfl <;> omega
theorem PlG.pg : pgB p.total p.starts p.sigs p.rows = true := by
  unfold pgB
  simp only [Bool.and_eq_true, decide_eq_true_eq]
  exact ⟨⟨h.t0, by have := h.t3; omega, h.st⟩, SGS_ok _ h.sg, h.procs⟩
end
def pgOf (p : Pl) : Pg := mkPg p.total p.starts p.sigs p.rows
theorem PlG.ok {p : Pl} (h : PlG p) : PgOk (pgOf p) := ⟨by show p.total ≤ 4; have := h.t3; omega, (sigsOk_of (SGS_ok _ h.sg)).1⟩
/-- a plain program of which a program can be made -/
structure PlV (p : Pl) : Prop where
  lenN : p.rows.length ≤ 4
  pr : ∀ r ∈ p.rows, validPr r = true
  small : smallPs p.rows
  pg : pgB p.total p.starts p.sigs p.rows = true
theorem PlG.v {p : Pl} (h : PlG p) : PlV p := ⟨h.lenN, fun r hr => h.pr hr, h.small, h.pg⟩
local macro_rules | `(tactic| simp! [$args,*]) => `(tactic| simp +contextual (maxSteps := 2000000) only [pure_app, bad_app, bind_app, then_ok, then_exc, then_bad, lift_app, toRes_some, toRes_none, ite_app, slot_zero, slot_succ, thenF_nx, thenF_rt, thenF_bk, thenF_ct, isB_bl, retF_rt, retF_nx, itemsOf_tup, itemsOf_lst, itemsOf_fl, itemsOf_str, tyName_non, tyName_bl, tyName_int, tyName_str, tyName_tup, tyName_lst, tyName_fl, tyName_dk, tyName_dt, seqOf_tup, lenOf_tup, seqOf_lst, lenOf_lst, seqOf_fl, lenOf_fl, listOf_lst, listOf_fl, lstOf_lst, lenOf_str, lenD_1, isi_eq, ltD_ii, ltD_ss, leD_ii, leD_ss, gtD_ii, gtD_ss, geD_ii, geD_ss, onI_ii, addD_ii, addD_ss, addD_tt, addD_ll, mulD_ii, mulD_si, mulD_li, ixD_si, ixD_tup, ixD_lst, ixD_fl, ixD_ob, intD_i, intD_b, absD_i, max2D_ii, min2D_ii, slD_s, slD_t, slD_l, intOf_i, joinD_1, upperD_0, reprBD_b, inD_eq, ninD_eq, eqD_eq, neD_eq, inB_sign, eqB_ss, eqB_ii, isD_n, isntD_n, tupleD_t, tupleD_l, listD_1, tyD_str, rng2_i, forM_nil, gSet_eq, bName_eq, wipeR_nil, wipeR_cons, obind_some, obind_none, omap_some, omap_none, kb_NoneType_int, kb_NoneType_bool, kb_NoneType_str, kb_NoneType_tuple, kb_NoneType_list, kb_NoneType_dict, kb_bool_int, kb_bool_bool, kb_bool_str, kb_bool_tuple, kb_bool_list, kb_bool_dict, kb_int_int, kb_int_bool, kb_int_str, kb_int_tuple, kb_int_list, kb_int_dict, kb_str_int, kb_str_bool, kb_str_str, kb_str_tuple, kb_str_list, kb_str_dict, kb_tuple_int, kb_tuple_bool, kb_tuple_str, kb_tuple_tuple, kb_tuple_list, kb_tuple_dict, kb_list_int, kb_list_bool, kb_list_str, kb_list_tuple, kb_list_list, kb_list_dict, kb_dict_int, kb_dict_bool, kb_dict_str, kb_dict_tuple, kb_dict_list, kb_dict_dict, seqS, ifS, retS, setS, dropS, skipS, asT, notT, andT, orT, ofT, andV, orV, notV, ifM, do2, opd, opd1, chain3, bltM, opl, consM, tupM, mkT, lstM, mkL, objMs, newL, alloc, fnM, methM, needT, oplm, sliceM, lcMM, oneM, valI, asgS, setIxS, forS, Bool.not_true, Bool.not_false, Bool.false_eq_true, if_false, if_true, reduceIte, List.set_cons_zero, List.set_cons_succ, decide_true, decide_false, Bool.true_and, Bool.false_and, Bool.and_true, Bool.and_false, Bool.true_or, Bool.false_or, Bool.or_true, Bool.or_false, sz_lit, disp1, keyOf_s, keyOf_i, pow59, pow15, pow39, pow38, pow590, aT, or_true, beq_self_eq_true, true_or, Int.reduceNeg, Int.reducePow, Int.reduceLT, Int.reduceLE, Int.reduceToNat, Nat.reduceAdd, Nat.reduceLeDiff, Nat.reducePow, and_self, and_true, true_and, false_and, and_false, or_false, false_or, List.length_cons, List.length_nil, ltTD_ii, ltTD_ss, lenDD_tup, lenDD_str, lenDD_lst, lenDD_dk, inDD_str, inDD_tup, inDD_dk, zipI, zip2_tt, zip2_ll, bSeq_2, cut1, ixDD_tup, at2_0, at2_1, at3_0, at3_1, at3_2, isiC_ty, isiC_ref, mulTD_ii, mulTD_t, negD_i, matchS, caseS, tagEq, noCase, setsD, List.getD_cons_zero, List.tail_cons, tupOf_t, Nat.reduceEqDiff, eq_self, List.length_map, sne_go_call, sne_go_raise, sne_go_leave, sne_call_go, sne_call_raise, sne_call_leave, sne_raise_go, sne_raise_call, sne_raise_leave, sne_leave_go, sne_leave_call, sne_leave_raise, at3_0', at3_2', at4_0', at4_2', at5_0', at5_2', at5_3', at6_0', at6_2', at6_3', at6_5', starM, seqM_app, List.map_nil, List.map_cons, List.append_nil, lc2M, lc2F, compM_S, ↓compS_map, compS_ok, compS_if, compS_no, compS_nil, compC_S, ↓compCS_map, compCS_ok, compCS_nil, compP_S, ↓compPS_map, compPS_ok, col_af, col_at, col_ta, col_fa, bol_af, bol_ta, bol_fa, bol_at, rt_col, rt_colT, ite_then, allD_map, anyD_map, allD_nil, allD_flatM, dcM, onePM, gtD_n, flat_map1, inB_nats, inB_strs, dinD_s, dinD_i, ixDD_dks, ixDD_dki, ixDD_lst, atI_n, idxTD_m, mulTD_1, cutL_hi, cutL_lo, eqB_tab, eqB_nats, zipD_map, enumD_map, upD_nat, map_eN, map_eNs, eN, eNm, eNs, eMs, ePs, eAs, eTab, Bool.not_not, ninDD_tup, ninDD_str, ninDD_lst, inDD_lst, ninDD_dk, dninD_s, nz_tz, nz_tup, tzOf_tz, rgD_n, rng1_n, nat_add, nat_add1, $args,*])
structure COk (c : Cs) : Prop where
  pr : c.Procedure ∈ c.all
  pg : c.Program ∈ c.all
theorem map_id1 {α : Type} (xs : List α) : xs.map (fun x => x) = xs := List.map_id' xs
theorem gConsM_c (g : D → Rho → M Rho) (gs : List D → Rho → M Rho) (d : D) (ds : List D) (ρ : Rho) : gConsM g gs (d :: ds) ρ = g d ρ >>= fun ρ' => gs ds ρ' := (rfl)
theorem gNilM_n (ρ : Rho) : gNilM [] ρ = pure ρ := (rfl)
noncomputable def den__law_well (c : Cs) : Rho → M Fl := (seqS (setS 2 (ifM (asT (do2 (fun ρ => lift (slot ρ 1)) (bltM (consM (fun ρ => lift (slot ρ 0)) (fun _ => pure [])) lenDD) ltTD)) (do2 (fun ρ => lift (slot ρ 0)) (fun ρ => lift (slot ρ 1)) ixDD) (do2 (do2 (fun _ => pure (.int 71)) (fun ρ => lift (slot ρ 1)) mulTD) (fun _ => pure (.int 37)) addD))) (seqS (setS 3 (do2 (bltM (consM (bltM (consM (fun ρ => lift (slot ρ 2)) (fun _ => pure [])) absD) (fun _ => pure [])) intD) (do2 (do2 (fun _ => pure (.int 10)) (fun _ => pure (.int 59)) powDW) (fun _ => pure (.int 10)) powDW) modD)) (seqS (setS 4 (do2 (bltM (consM (do2 (do2 (do2 (do2 (fun ρ => lift (slot ρ 3)) (fun _ => pure (.int 1000253)) mulTD) (do2 (fun _ => pure (.int 8969)) (fun ρ => lift (slot ρ 1)) mulTD) addD) (do2 (fun _ => pure (.int 47)) (bltM (consM (do2 (fun ρ => lift (slot ρ 2)) (fun _ => pure (.int 0)) ltTD) (fun _ => pure [])) intD) mulTD) addD) (fun _ => pure (.int 19)) addD) (fun _ => pure [])) intD) (fun _ => pure (.int 1152921504606846803)) modD)) (retS (objMs (consM (bltM (consM (fun _ => pure (.int 0)) (consM (do2 (fun ρ => lift (slot ρ 3)) (do2 (fun _ => pure (.int 10)) (fun _ => pure (.int 15)) powDW) subD) (fun _ => pure []))) max2D) (consM (fun ρ => lift (slot ρ 4)) (consM (fun _ => pure (.int 0)) (fun _ => pure [])))))))))
noncomputable def F__law_well (c : Cs) : List D → M D := dmir (fun p : List Int × Nat => [.fl (p.1.map D.int), eN p.2]) (fun ds => den__law_well c (rho0 5 ds) >>= retF) (fun p _ => p.2 < 1000 ∧ p.1.length ≤ sizeLine) (fun p S d S' => ∃ w, d = .ob S.length ∧ S' = S ++ [wl w])
theorem le__law_well (c : Cs) (ds : List D) (S : List MO) (hl : ds.length = 2) (hc : D.clAll S.length ds = true) (hf : D.fitAll ds = true) (hs : SCl S) : Le S.length (F__law_well c ds S) ((den__law_well c (rho0 5 ds) >>= retF) S) := dmir_le
theorem inj_fl : Inj (fun l : List Int => D.fl (l.map D.int)) := fun a b h => inj_map inj_int _ _ (D.fl.inj h)
theorem ixDD_fl (S : List MO) (xs : List D) (i : Int) : ixDD S (.fl xs) (.int i) = ixD S (.fl xs) (.int i) := (rfl)
theorem lenDD_fl (S : List MO) (xs : List D) : lenDD S [.fl xs] = some (.int (xs.length : Nat)) := (rfl)
theorem ex__law_well (c : Cs) {ns : List Int} {k : Nat} {S : List MO} (hs : SCl S) (hk : k < 1000) (hz : ns.length ≤ sizeLine) : ∃ w, F__law_well c [.fl (ns.map D.int), .int (k : Nat)] S = .ok (.ob S.length) (put (S ++ [wl w]) S.length w) := by
  have h := dmir_ret (es := fun p : List Int × Nat => [.fl (p.1.map D.int), eN p.2]) (den := fun ds => den__law_well c (rho0 5 ds) >>= retF) (pre := fun p _ => p.2 < 1000 ∧ p.1.length ≤ sizeLine) (post := fun p S d S' => ∃ w, d = .ob S.length ∧ S' = S ++ [wl w]) (inj2 inj_fl inj_eN) (ns, k) hs ⟨hk, hz⟩ ?_
  · obtain ⟨d, S', e, w, rfl, rfl⟩ := h.eq
    refine ⟨w, ?_⟩
    rw [put_self (by exact app_get0 S (wl w) [])]
    exact e
  show Ret ((den__law_well c [some (.fl (ns.map D.int)), some (.int (k : Nat)), none, none, none] >>= retF) S) fun d' S'' => ∃ d S', (∃ w, d = .ob S.length ∧ S' = S ++ [wl w]) ∧ Le S.length (.ok d S') (.ok d' S'')
  have hP := P590_pos
  have z1 : (3 : Nat) ≤ sizeLine := by decide
  have fin : ∀ a b e : Int, ∃ d S', (∃ w, d = .ob S.length ∧ S' = S ++ [wl w]) ∧ Le S.length (.ok d S') (.ok (.ob S.length) (S ++ [.ml [.int a, .int b, .int e]])) := fun a b e => ⟨_, _, ⟨(a, b, e), rfl, rfl⟩, Le.refl⟩
  by_cases hc : k < ns.length
  · have hx : atI (ns.map D.int) (k : Int) = some (.int ns[k]) := by rw [atI_n, List.getElem?_map, List.getElem?_eq_getElem hc]; rfl
    simp! [den__law_well, decide_eq_true_eq, ixDD_fl, lenDD_fl, List.length_map, show ((k : Int) < (ns.length : Int)) from by omega, hx, hP, z1, Ret_ok]
    exact fin _ _ _
  · simp! [den__law_well, decide_eq_true_eq, ixDD_fl, lenDD_fl, List.length_map, show ¬ ((k : Int) < (ns.length : Int)) from by omega, hP, z1, Ret_ok]
    exact fin _ _ _
theorem wl_app {S : List MO} {w w' : W3} : put (S ++ [wl w]) S.length w' = S ++ [wl w'] := app_set0 S (wl w) (wl w') []
set_option maxHeartbeats 2000000
/-- a special method that the class at C has from a def -/
structure OwnS (K : Frag) (C : Addr) (name : Str) (f : Addr) : Prop where
  hs : PySem.W.findIn K (.ref C) name = some (some (.ref f))
  hf : PySem.W.isFn K (.ref f) = true
structure OwnE (K : Frag) (C : Addr) (f : Addr) : Prop where
  eq : OwnS K C "__eq__" f
  ne : PySem.W.findIn K (.ref C) "__ne__" = some (some (.builtin "object.__ne__"))
  ob : PySem.W.mroIn K C (.type "object") = some true
  nf : ∀ T ∈ seven, PySem.W.notFirst K C (.type T) = true
section
variable {X : Cx} {σ : L2.St} {C f : Addr} {fd : FuncData} {ps : List Str} {F : List D → M D} {k : Nat} {W : WX}
inductive PDJ (X : Cx) (W : WX) : List Expr → List (Rho → M D) → Prop
  | nil : PDJ X W [] []
  | cons {e : Expr} {m : Rho → M D} {es : List Expr} {ms : List (Rho → M D)} (h : PDE X W e m) (r : PDJ X W es ms) : PDJ X W (e :: es) (m :: ms)
end
section
open PySem.SeqAt
open AutoSeq1 (wpAny_loadPart')
open MeetsSeq
end
section
variable {X : Cx} {pins : List (Addr × Obj)} {σ : L2.St} {s : Shared} {w : Wr}
/-- a container, in the heap -/
inductive ConS (s : Shared) (x : D) (u : Value) : Prop
  | tup {a : Addr} {xs : List D} {items : Array Value} (e : x = .tup xs) (eu : u = .ref a) (h : s.heap.IsTuple a items) (hl : items.size = xs.length) : ConS s x u
  | lst {a : Addr} {items : Array Value} (ne : ∀ xs, x ≠ .tup xs) (eu : u = .ref a) (h : s.heap.IsList a items) : ConS s x u
  | dk {a : Addr} {o : Obj} (ne : ∀ xs, x ≠ .tup xs) (eu : u = .ref a) (h : s.heap.get? a = some o) (hc : o.cls = .type "dict") (hd : ∃ es ep, o.data = .dict es ep) : ConS s x u
end
end PD
namespace PySem
open Sem (wp)
theorem pd_enumNew {v : Value} {o : Obj} {H : Heap → Prop} (B : Begins v o H) :
    Meets (Builtin.«enumerate.__new__» ⟨[.type "enumerate", v], []⟩) (fun _ R s => H s.heap ∧
      R (.ok (.ret (.ref (s.heap.push o).objs.size))) { s with heap := (s.heap.push o).push { cls := .type "enumerate", data := .fields #[.none, .bool false, .ref s.heap.objs.size, rawInt 0, .none, .none] } }) :=
  .of_wp fun prog w A R s y => by
    obtain ⟨hp, g, d, tk, os⟩ := s; obtain ⟨z1, y⟩ := y
    have hsub := sub_enumerate
    have qB : ∀ {A' : Around} {E : Value → Shared → Prop} {Q : Value → Shared → Prop}, Q (.ref hp.objs.size) ⟨hp.push o, g, d, tk, os⟩ → wpAny (model prog w) A' (pyIter v) Q E ⟨hp, g, d, tk, os⟩ :=
      fun q => B.iter prog w _ _ ⟨hp, g, d, tk, os⟩ _ z1 q
    wp_walk using qB
    refine wpAny_stack_any fun st => wpAny_pure ?_
    split
    · rename_i c _ _ _ _ _
      cases (c == Value.type "enumerate")
      · wp_walk using qB; exact ⟨_, rfl, y⟩
      · wp_walk using qB; exact ⟨_, rfl, y⟩
    · wp_walk using qB; exact ⟨_, rfl, y⟩
theorem pd_enumCall {prog : Program} {w : World} {A : Around} {E : Value → Shared → Prop} {s : Shared} {v : Value} {o : Obj} {H : Heap → Prop} {Q : Value → Shared → Prop} (B : Begins v o H) (z : H s.heap)
    (h : ∀ h2, IsEnum h2 (s.heap.objs.size + 1) s.heap.objs.size 0 .none → h2.get? s.heap.objs.size = some o → (∀ b u, s.heap.get? b = some u → h2.get? b = some u) → Q (.ref (s.heap.objs.size + 1)) { s with heap := h2 }) :
    wpAny (model prog w) A (call (.type "enumerate") [v]) Q E s := by
  refine callType_new F.called_enumerate (by decide) (F.typeCall_enumerate_1 _) (F.newCall_enumerate_1 _) (fun obj => F.args_object_init_2 obj _) F.entry_enumerate_new (pd_enumNew B) ⟨z, ?_⟩
  have sz : (s.heap.push o).objs.size = s.heap.objs.size + 1 := Heap.size_push ..
  show _ ∧ _
  rw [sz]
  have en : IsEnum ((s.heap.push o).push { cls := .type "enumerate", data := .fields #[.none, .bool false, .ref s.heap.objs.size, rawInt 0, .none, .none] }) (s.heap.objs.size + 1) s.heap.objs.size 0 .none := by
    have q := Heap.get?_push_size (s.heap.push o) (o := { cls := .type "enumerate", data := .fields #[.none, .bool false, .ref s.heap.objs.size, rawInt 0, .none, .none] }) rfl
    rw [sz] at q; exact q
  exact ⟨⟨_, en, rfl⟩, h _ en (Heap.get?_push_of_some _ (Heap.get?_push_size _ B.free)) fun b u x => Heap.get?_push_of_some _ (Heap.get?_push_of_some _ x)⟩
end PySem
namespace PD
open PySem PySem.Spec PyProof.Rows L2
/-- the tuple at a, each item in a new pair -/
def ItT (K : Frag) (a : Addr) : It :=
  ⟨fun i H => ∃ (xs : List V) (x : V), SqT K H a xs ∧ xs[i]? = some x, fun i H v H' => ∃ T x, v = .ref T ∧ H T = none ∧ H' = upd H T (.tup [.int (i : Nat), x]) ∧ ∀ xs, SqT K H a xs → xs[i]? = some x, fun i H => ∃ xs : List V, SqT K H a xs ∧ xs.length = i⟩
theorem turn_enumT {P : Program} {w : World} {K : Frag} {elts : List Expr} {kk : Nat} {tpos : Pos} (a e it : Addr) (hea : e ≠ a) (hai : a ≠ it) :
    Turn P w K (.Tuple elts kk tpos) (ItT K a) [e, it] e (fun i h => (∃ old, IsEnum h e it ((i : Nat) : Int) old) ∧ h.IsTupleIter it a i ∧ e ≠ it) where
  mem := by simp
  obj := fun i h st b hb => by
    obtain ⟨⟨old, he⟩, ⟨o, ho, hc, hd⟩, _⟩ := st
    rcases (by simpa using hb : b = e ∨ b = it) with z | z
    · rw [z]; exact ⟨_, he, fun v q => nomatch q⟩
    · rw [z]; exact ⟨o, ho, fun v q => by rw [hd] at q; cases q⟩
  keep := fun i h h' st k => let ⟨⟨old, he⟩, hi, hne⟩ := st; ⟨⟨old, k e (by simp) _ he⟩, hi.at fun o q => k it (by simp) o q, hne⟩
  item := by
    intro X hP hw hK hc i pins s σ H E I hf st hg
    subst hP hw hK
    obtain ⟨⟨old, he⟩, hit, hne⟩ := st
    obtain ⟨xs, x, hq, hx⟩ := hg
    obtain ⟨its, rv, p, hz⟩ := I.tuple hq
    obtain ⟨u, hu, ru⟩ := rv.get hx
    have hel : e < s.heap.objs.size := Heap.lt_size he
    have hil : it < s.heap.objs.size := by obtain ⟨_, q, _⟩ := hit; exact Heap.lt_size q
    have D := Draws.tuple (prog := X.prog) (w := X.w) (A := X.A.in1) (I.ok.hd hc) it a hai its.toArray
    have hlt : i < its.toArray.size := by
      have := (List.getElem?_eq_some_iff.mp hx).1
      rw [List.size_toArray, ← rv.length]; exact this
    refine wpAny_pyNext_enum_itemD D he ⟨hit, p⟩ hlt hne (by simp [hne, hea]) fun x2 h' tk hP2 ho hst' hT hsz hk => ?_
    have hux : x2 = u := by
      have h1 : its.toArray[i]? = some x2 := hP2
      rw [show its.toArray[i]? = some u by simpa using hu] at h1
      exact (Option.some.inj h1).symm
    subst hux
    refine ⟨_, rfl, wpAny_letOwnedTupleGo_enum (s := { s with heap := h', toks := tk + 1 }) ho fun h'' he' sb => ?_⟩
    have hT2 : h''.get? s.heap.objs.size = some { cls := .type "tuple", data := .seq #[.int i tk, x2] } := (sb.2 _ (Nat.ne_of_gt hel)).trans hT
    have nw : ObjOk X.prog X.w (upd H s.heap.objs.size (.tup [.int (i : Nat), x])) h'' s.heap.objs.size (.tup [.int (i : Nat), x]) :=
      ⟨by show 2 ≤ sizeLine; decide, [.int i tk, x2], .cons ⟨_, rfl⟩ (.cons ru .nil), ⟨_, hT2, rfl, _, rfl⟩⟩
    have I1 : Inv X pins σ (upd H s.heap.objs.size (.tup [.int (i : Nat), x])) { s with heap := h'', toks := tk + 1 } :=
      I.turnedNew (ch := [e, it]) (fun b ob hb q => (sb.2 b (fun z => hb (by simp [z]))).trans (hk b ob (fun z => hb (by simp [z])) (fun z => hb (by simp [z])) q)) hf (Nat.le_refl _) nw
    refine ⟨.ref s.heap.objs.size, _, I1, rfl, ⟨_, x, rfl, I.hok.fresh (Nat.le_refl _), rfl, fun ys hy => by rw [I.tuple_inj hy hq]; exact hx⟩, ⟨⟨x2, ?_⟩, hst'.1.at fun o q => (sb.2 it (Ne.symm hne)).trans q, hne⟩, fun b hb => ?_⟩
    · rw [show ((i + 1 : Nat) : Int) = (i : Int) + 1 by omega]; exact he'
    · have hb' : b < s.heap.objs.size := by
        rcases (by simpa using hb : b = e ∨ b = it) with z | z
        · rw [z]; exact hel
        · rw [z]; exact hil
      rw [upd_ne (Nat.ne_of_lt hb')]
      exact (hf b hb).1
  done := by
    intro X hP hw hK hc i pins s σ H E I hf st hg
    subst hP hw hK
    obtain ⟨⟨old, he⟩, hit, hne⟩ := st
    obtain ⟨xs, hq, hx⟩ := hg
    obtain ⟨its, rv, p, hz⟩ := I.tuple hq
    obtain ⟨f0, f1, f2, f3, f4, f5⟩ := hf it (by simp)
    have D := Draws.tuple (prog := X.prog) (w := X.w) (A := X.A.in1) (I.ok.hd hc) it a hai its.toArray
    have hn : i = its.toArray.size := by rw [List.size_toArray, ← rv.length]; exact hx.symm
    subst hn
    exact wpAny_pyNext_enum_endD D he ⟨hit, p⟩ fun h' eb => ⟨rfl, I.turned (t' := s.toks) (fun b o hb q => eb b o hb q) f0 f1 f3 f4 f5⟩
  self := fun A i s Q E st h => let ⟨⟨_, he⟩, _⟩ := st; wpAny_pyIter_enum he h
def iEnumT (K : Frag) (ta : TA) : TI := fun σ H R => ta σ H fun vs H1 => ∃ a xs, vs = [.ref a] ∧ ((SqL K H1 a xs ∧ R (Ite K a) H1) ∨ (SqT K H1 a xs ∧ R (ItT K a) H1))
theorem pi_enumT {X : Cx} {e : Expr} {ta : TA} {p pos tpos : Pos} {elts : List Expr} {kk : Nat} (hg : Gl X "enumerate") (hm : X.mg "enumerate" = none) (ha : PA X [e] ta) (hs : starEach [e] X.env = [(false, eval e X.env)] := by rfl) :
    PI X (.Tuple elts kk tpos) (.Call (.Name "enumerate" p) [e] [] pos) (iEnumT X.K ta) := by
  refine ⟨fun pins s σ H R I h => ?_⟩
  refine Call_ (ld_blt I hg hm boot_enumerate (PyProof.Rows.callWith_type1 (thn (ha.run pos pins s σ H _ I h) fun us s1 ⟨vs, H1, I1, r1, q1⟩ => ?_) hs rfl))
  obtain ⟨a, xs, ex, hq⟩ := q1
  subst ex
  cases r1 with
  | cons r rr =>
    cases rr
    cases r
    have fresh : ∀ b ∈ [s1.heap.objs.size + 1, s1.heap.objs.size], s1.heap.objs.size ≤ b := fun b hb => by
      rcases (by simpa using hb : b = s1.heap.objs.size + 1 ∨ b = s1.heap.objs.size) with z | z
      · rw [z]; exact Nat.le_add_right _ _
      · rw [z]; exact Nat.le_refl _
    rcases hq with ⟨hq, q⟩ | ⟨hq, q⟩
    · obtain ⟨its, rv, p', hz⟩ := I1.list hq
      refine call_enumerate_list p'.isList fun h' he hit hsz hk => wpAny_pyIter_enum he ?_
      have I2 : Inv X pins σ H1 { s1 with heap := h' } := I1.kept (t' := s1.toks) hk
      exact ⟨s1.heap.objs.size + 1, [s1.heap.objs.size + 1, s1.heap.objs.size], _, _, H1, rfl, I2, turn_enum a (s1.heap.objs.size + 1) s1.heap.objs.size, ⟨⟨.none, he⟩, hit, Nat.succ_ne_self _⟩, fun b hb => I1.fpOk (fresh b hb) (I1.hok.fresh (fresh b hb)), q⟩
    · obtain ⟨its, rv, p', hz⟩ := I1.tuple hq
      have la : a < s1.heap.objs.size := by obtain ⟨_, q, _⟩ := p'; exact Heap.lt_size q
      refine pd_enumCall (begins_tuple a its.toArray) p' fun h' he hit hk => wpAny_pyIter_enum he ?_
      have I2 : Inv X pins σ H1 { s1 with heap := h' } := I1.kept (t' := s1.toks) hk
      exact ⟨s1.heap.objs.size + 1, [s1.heap.objs.size + 1, s1.heap.objs.size], _, _, H1, rfl, I2, turn_enumT a (s1.heap.objs.size + 1) s1.heap.objs.size (Nat.ne_of_gt (Nat.lt_succ_of_lt la)) (Nat.ne_of_lt la), ⟨⟨.none, he⟩, ⟨_, hit, rfl, rfl⟩, Nat.succ_ne_self _⟩, fun b hb => I1.fpOk (fresh b hb) (I1.hok.fresh (fresh b hb)), q⟩
theorem walk_enumT {K : Frag} {a : Addr} {xs : List V} : Walk (ItT K a) xs.length (fun H => SqT K H a xs) (YPair (fun i => some (.int (i : Nat))) (fun i => xs[i]?)) := by
  refine ⟨fun i _ hi q => ⟨xs, xs[i], q, by simp [hi]⟩, fun _ q => ⟨xs, q, rfl⟩, fun i H v H' _ q y => ?_⟩
  obtain ⟨T, x, h1, h2, h3, h4⟩ := y
  exact ⟨T, .int (i : Nat), x, h1, h2, h3, rfl, h4 xs q⟩
def enum1 (x : D) : Option (List D) := match tupOf x with
  | some xs => some (enumD xs)
  | none => (lsOf x).map enumD
def enumI : List D → M (List D)
  | [x] => lift (enum1 x)
  | _ => bad
theorem enumI_l (xs : List D) : enumI [.lst xs] = pure (enumD xs) := (rfl)
theorem enumD_len (xs : List D) : (enumD xs).length = xs.length := by unfold enumD; rw [List.length_map, List.length_zipIdx]
theorem enumD_at {xs : List D} {i : Nat} {d : D} (h : xs[i]? = some d) : (enumD xs)[i]? = some (.tup [.int (i : Nat), d]) := by
  unfold enumD
  rw [List.getElem?_map, List.getElem?_zipIdx, h]
  simp
section
variable {X : Cx} {W : WX} {e : Expr} {elts : List Expr} {kk : Nat} {ms : Rho → M (List D)} {p pos tpos : Pos}
theorem pdi_enum (hg : Gl X "enumerate") (hm : X.mg "enumerate" = none) (ha : PDA X W [e] ms) (hs : starEach [e] X.env = [(false, eval e X.env)] := by rfl) :
    PDI X W (.Tuple elts kk tpos) (.Call (.Name "enumerate" p) [e] [] pos) (fun ρ => ms ρ >>= enumI) := PI.imp (pi_enumT hg hm ha hs) fun σ H R ⟨w, ρ, a, h⟩ =>
  tA_bind (f := fun _ ds => enumI ds) a h fun ds vs w1 e1 a1 hv h1 => by
    match ds, hv, h1 with
    | [], _, h1 => exact h1.elim
    | _ :: _ :: _, _, h1 => exact h1.elim
    | [x], hv, h1 =>
      obtain ⟨v, rfl, hvx⟩ := Dats.one hv
      obtain ⟨zs, ez, h1⟩ := Pst.lift1 h1
      unfold enum1 at ez
      have fin : ∀ {J : It} {xs : List D} {vs : List V} {G : Hp → Prop}, Dts X.K w1 vs xs → Walk J vs.length G (YPair (fun i => some (.int (i : Nat))) (fun i => vs[i]?)) → (∀ w2, Exw w1 w2 → Wd X.K w2 → G w2.H) → Wk X.K w1 J (enumD xs) :=
        fun {J xs vs G} t wk hG => wk_pair (by rw [enumD_len, t.length]) wk hG fun i w2 x y hi e2 d2 hx hy => by
          obtain ⟨d, hd, r⟩ := t.getV hy
          cases hx
          exact ⟨.int (i : Nat), d, enumD_at hd, .int _, Dt.exw e2 r⟩
      cases ht : tupOf x with
      | some xs =>
        rw [ht] at ez
        cases ez
        obtain ⟨b, vs, rfl, q, t⟩ := tupOf_ok hvx ht
        exact ⟨b, vs, rfl, .inr ⟨SqT.same a1.2.1.fz q, h1 w1 rfl (Ex.refl _) a1.2.1 _ (fin t walk_enumT fun w2 e2 d2 => SqT.same (fun _ _ z => d2.fz _ _ (e2.fz _ _ z)) q)⟩⟩
      | none =>
        rw [ht] at ez
        have ez : (lsOf x).map enumD = some zs := ez
        rw [Option.map_eq_some_iff] at ez
        obtain ⟨xs, hl, rfl⟩ := ez
        obtain ⟨b, vs, rfl, q, t⟩ := lsOf_ok hvx hl
        exact ⟨b, vs, rfl, .inl ⟨SqL.same a1.2.1.fz q, h1 w1 rfl (Ex.refl _) a1.2.1 _ (fin t walk_enum fun w2 e2 d2 => SqL.same (fun _ _ z => d2.fz _ _ (e2.fz _ _ z)) q)⟩⟩
end
set_option maxHeartbeats 400000
open HT
def parS3 (i j l : Nat) (ms : Rho → M (List D)) : Rho → M Fl := fun ρ => ms ρ >>= fun ds => match ds with
  | [d, e, f] => pure (.nx (((ρ.set i (some d)).set j (some e)).set l (some f)))
  | _ => bad
theorem Dats.three {K : Frag} {w : Wr} {vs : List V} {d e f : D} (h : Dts K w vs [d, e, f]) : ∃ v u t, vs = [v, u, t] ∧ Dt K w v d ∧ Dt K w u e ∧ Dt K w t f := by
  cases h with
  | cons h1 h => obtain ⟨u, t, rfl, h2, h3⟩ := Dats.two h; exact ⟨_, u, t, rfl, h1, h2, h3⟩
theorem pds_par3 {X : Cx} {W : WX} {pos : Pos} {ms : Rho → M (List D)} {x y z : Str} {a b c : Expr} {px py pz pt : Pos} {kt k2 pt2} (i j l : Nat) (hN : X.N.Nodup) (ha : PDA X W [a, b, c] ms) (hc : X.calm = true := by rfl) (hi : X.N[i]? = some x := by rfl) (hj : X.N[j]? = some y := by rfl) (hl : X.N[l]? = some z := by rfl) (hij : i ≠ j := by decide) (hil : i ≠ l := by decide) (hjl : j ≠ l := by decide)
    (hx : X.env.scope.names.lookup x = some .local := by rfl) (hy : X.env.scope.names.lookup y = some .local := by rfl) (hz : X.env.scope.names.lookup z = some .local := by rfl)
    (hw : swappedStores [.Tuple [.Name x px, .Name y py, .Name z pz] kt pt] (.Tuple [a, b, c] k2 pt2) X.env = pure (some [x, y, z]) := by rfl)
    (hs : swapsWithSole [.Tuple [.Name x px, .Name y py, .Name z pz] kt pt] (.Tuple [a, b, c] k2 pt2) pos.line X.env = pure false := by rfl) :
    PDS X W (.Assign [.Tuple [.Name x px, .Name y py, .Name z pz] kt pt] (.Tuple [a, b, c] k2 pt2) pos) (parS3 i j l ms) := PS.imp (ps_par3 hc hN hi hj hl hij hil hjl hx hy hz ha hw hs) fun Dn σ H ⟨w, ρ, a, h⟩ =>
  tA_bind (f := fun ρ ds => match ds with | [d, e, f] => pure (Fl.nx (((ρ.set i (some d)).set j (some e)).set l (some f))) | _ => bad) a h fun ds vs w1 e1 a1 hv h1 => by
    match ds, hv, h1 with
    | [], _, h1 => exact h1.elim
    | [_], _, h1 => exact h1.elim
    | [_, _], _, h1 => exact h1.elim
    | _ :: _ :: _ :: _ :: _, _, h1 => exact h1.elim
    | [d, e, f], hv, h1 =>
      obtain ⟨v, u, t, rfl, hv, hu, ht⟩ := Dats.three hv
      exact ⟨v, u, t, rfl, h1 w1 rfl (Ex.refl _) a1.2.1 _ (((a1.2.2.set hv).set hu).set ht)⟩
set_option maxHeartbeats 2000000
open PySem.Calls
mutual
def D.dat0 : Nat → D → Bool
  | _, .non => true
  | _, .bl _ => true
  | _, .int _ => true
  | _, .str _ => true
  | n + 1, .tup xs => D.dat0s n xs
  | n + 1, .lst xs => D.dat0s n xs
  | _ + 1, .dk [] [] => true
  | _, _ => false
def D.dat0s : Nat → List D → Bool
  | _, [] => true
  | n, d :: ds => D.dat0 n d && D.dat0s n ds
end
mutual
theorem deep0 : ∀ (n : Nat) (d : D), D.dat0 n d = true → (pyD d).depth ≤ n
  | _, .non, _ => by simp [pyD, PyData.depth]
  | _, .bl _, _ => by simp [pyD, PyData.depth]
  | _, .int _, _ => by simp [pyD, PyData.depth]
  | _, .str _, _ => by simp [pyD, PyData.depth]
  | n + 1, .tup xs, h => by simp only [pyD, PyData.depth]; have := deep0s n xs (by unfold D.dat0 at h; exact h); omega
  | n + 1, .lst xs, h => by simp only [pyD, PyData.depth]; have := deep0s n xs (by unfold D.dat0 at h; exact h); omega
  | n + 1, .dk [] [], _ => by simp [pyD, PyData.depth, PyData.depthKv]
  | n + 1, .dk (_ :: _) _, h => by unfold D.dat0 at h; cases h
  | n + 1, .dk [] (_ :: _), h => by unfold D.dat0 at h; cases h
  | 0, .tup _, h => by unfold D.dat0 at h; cases h
  | 0, .lst _, h => by unfold D.dat0 at h; cases h
  | 0, .dk [] [], h => by simp [D.dat0] at h
  | 0, .dk (_ :: _) _, h => by simp [D.dat0] at h
  | 0, .dk [] (_ :: _), h => by simp [D.dat0] at h
  | _, .fl _, h => by unfold D.dat0 at h; cases h
  | _, .ob _, h => by unfold D.dat0 at h; cases h
  | _, .ty _, h => by unfold D.dat0 at h; cases h
  | _, .ref _, h => by unfold D.dat0 at h; cases h
  | _, .tz _, h => by unfold D.dat0 at h; cases h
  | _, .dt _ _, h => by unfold D.dat0 at h; cases h
  | _, .ins _ _ _, h => by unfold D.dat0 at h; cases h
  | _, .lam _ _ _ _ _, h => by unfold D.dat0 at h; cases h
  | _, .xo _ _ _, h => by unfold D.dat0 at h; cases h
theorem deep0s : ∀ (n : Nat) (ds : List D), D.dat0s n ds = true → PyData.depthAll (pyDs ds) ≤ n
  | n, [], _ => by simp [pyDs, PyData.depthAll]
  | n, d :: ds, h => by
    unfold D.dat0s at h
    rw [Bool.and_eq_true] at h
    simp only [pyDs, PyData.depthAll]
    have := deep0 n d h.1
    have := deep0s n ds h.2
    omega
end
section
variable {X : Cx} {pins : List (Addr × Obj)} {σ : L2.St} {s : Shared} {w : Wr}
theorem not_sys {H : Hp} {a : Addr} {o : HO} (hK : ∃ o, X.K.lookup sysModules = some o) (I : Inv X pins σ H s) (h : H a = some o) : sysModules ≠ a := fun z => by
  obtain ⟨o2, q⟩ := hK
  have := (I.bs _ _ (I.ok.mod.kin _ _ q)).2
  rw [z, h] at this
  cases this
mutual
theorem reads0 (hK : ∃ o, X.K.lookup sysModules = some o) (wd : Wd X.K w) (I : Inv X pins σ w.H s) : ∀ (n : Nat) (d : D) {v : V} {u : Value}, D.dat0 n d = true → Dt X.K w v d → RelV v u → ∃ as, Reads s.heap u (pyD d) as ∧ sysModules ∉ as
  | _, .non, _, _, _, h, r => by cases h; cases r; exact ⟨[], .none, fun z => nomatch z⟩
  | _, .bl b, _, _, _, h, r => by cases h; cases r; exact ⟨[], .bool b, fun z => nomatch z⟩
  | _, .int i, _, _, _, h, r => by cases h; obtain ⟨t, rfl⟩ := r; exact ⟨[], .int i t, fun z => nomatch z⟩
  | _, .str x, _, _, _, h, r => by cases h; obtain ⟨t, rfl⟩ := r; exact ⟨[], .str x t, fun z => nomatch z⟩
  | n + 1, .tup xs, _, _, c, h, r => by
    cases h with
    | tup q _ t =>
      cases r
      obtain ⟨its, rv, ⟨o, e, hc, m, hd⟩, _⟩ := I.tuple (SqT.same wd.fz q)
      obtain ⟨as, ra, na⟩ := reads0s hK wd I n xs (by unfold D.dat0 at c; exact c) t rv
      exact ⟨as, .tuple e hc hd (by simpa using ra), na⟩
  | n + 1, .lst xs, _, _, c, h, r => by
    cases h with
    | lst q _ t =>
      cases r
      have q2 := wd.fz _ _ q
      obtain ⟨its, rv, ⟨o, m, e, hc, hx, hd⟩, _⟩ := I.list (SqL.of q2)
      obtain ⟨as, ra, na⟩ := reads0s hK wd I n xs (by unfold D.dat0 at c; exact c) t rv
      exact ⟨_ :: as, .list e hc hd (by simpa using ra), fun z => (List.mem_cons.mp z).elim (not_sys hK I q2) na⟩
  | n + 1, .dk [] [], _, _, c, h, r => by
    cases h with
    | @dk a _ vs' _ hB hl hl2 tt =>
      cases tt
      cases r
      have q2 := wd.fz _ _ hB
      obtain ⟨_, hsys, vs, hkv, o, es, ep, ho, hx, hd, _, hes, _⟩ := I.hok a _ q2
      cases hkv
      have e0 : es.toList = [] := by
        generalize es.toList = l at hes
        cases hes
        rfl
      exact ⟨[a] ++ [], .dict (kvs := []) ho hx.1 hd (by rw [e0]; exact .nil) (by rw [e0]; exact .nil), fun z => not_sys hK I q2 (by simpa using z)⟩
  | n + 1, .dk (_ :: _) _, _, _, c, _, _ => by unfold D.dat0 at c; cases c
  | n + 1, .dk [] (_ :: _), _, _, c, _, _ => by unfold D.dat0 at c; cases c
  | 0, .tup _, _, _, c, _, _ => by unfold D.dat0 at c; cases c
  | 0, .lst _, _, _, c, _, _ => by unfold D.dat0 at c; cases c
  | 0, .dk [] [], _, _, c, _, _ => by simp [D.dat0] at c
  | 0, .dk (_ :: _) _, _, _, c, _, _ => by simp [D.dat0] at c
  | 0, .dk [] (_ :: _), _, _, c, _, _ => by simp [D.dat0] at c
  | _, .fl _, _, _, c, _, _ => by unfold D.dat0 at c; cases c
  | _, .ob _, _, _, c, _, _ => by unfold D.dat0 at c; cases c
  | _, .ty _, _, _, c, _, _ => by unfold D.dat0 at c; cases c
  | _, .ref _, _, _, c, _, _ => by unfold D.dat0 at c; cases c
  | _, .tz _, _, _, c, _, _ => by unfold D.dat0 at c; cases c
  | _, .dt _ _, _, _, c, _, _ => by unfold D.dat0 at c; cases c
  | _, .ins _ _ _, _, _, c, _, _ => by unfold D.dat0 at c; cases c
  | _, .lam _ _ _ _ _, _, _, c, _, _ => by unfold D.dat0 at c; cases c
  | _, .xo _ _ _, _, _, c, _, _ => by unfold D.dat0 at c; cases c
theorem reads0s (hK : ∃ o, X.K.lookup sysModules = some o) (wd : Wd X.K w) (I : Inv X pins σ w.H s) : ∀ (n : Nat) (ds : List D) {vs : List V} {us : List Value}, D.dat0s n ds = true → Dts X.K w vs ds → Vals vs us → ∃ as, ReadsAll s.heap us (pyDs ds) as ∧ sysModules ∉ as
  | _, [], _, _, _, h, r => by cases h; cases r; exact ⟨[], .nil, fun z => nomatch z⟩
  | n, d :: ds, _, _, c, h, r => by
    unfold D.dat0s at c
    rw [Bool.and_eq_true] at c
    cases h with
    | cons h1 h2 =>
      cases r with
      | cons r1 r2 =>
        obtain ⟨as, a1, n1⟩ := reads0 hK wd I n d c.1 h1 r1
        obtain ⟨bs, a2, n2⟩ := reads0s hK wd I n ds c.2 h2 r2
        exact ⟨as ++ bs, .cons a1 a2, fun z => (List.mem_append.mp z).elim n1 n2⟩
end
end
/-- repr(a list) -/
def rpr0 (_ : List MO) : List D → Option D
  | [.lst xs] => if D.dat0s 59 xs = true ∧ (pyD (.lst xs)).showable = true ∧ (pyD (.lst xs)).shown.length ≤ sizeLine then some (.str (pyD (.lst xs)).shown) else none
  | _ => none
theorem c_repr0 {X : Cx} (hK : ∃ o, X.K.lookup sysModules = some o) (hu : X.A.units + 64 < cLine) (hgd : X.A.guards = some []) : CallR X (.builtin "repr") (callM X.K rpr0) := by
  rintro pins s σ H xs us Q I rv ⟨w, ds, d, rfl, wd, t, e, k⟩
  unfold rpr0 at e
  split at e
  · rename_i ys
    obtain ⟨v, rfl, hv⟩ := Dats.one t
    split at e
    · rename_i hc
      obtain ⟨hc, hs, hz⟩ := hc
      cases e
      cases rv with
      | @cons _ u _ us' r rn =>
      cases rn
      have hc1 : D.dat0 60 (.lst ys) = true := by unfold D.dat0; exact hc
      obtain ⟨as, ra, na⟩ := reads0 hK wd I 60 (.lst ys) hc1 hv r
      have dp := deep0 60 (.lst ys) hc1
      cases hv with
      | lst q _ t =>
        cases r
        exact repr_of_reads' ra hs (fun _ => na) hgd (by omega) (fun _ _ z => z) (fun h' q tk kk => ⟨.str _, w.H, I.kept (t' := tk) kk, ⟨q, rfl⟩, k w (.str _) rfl (Ex.refl _) wd (.str _ hz)⟩) hz
    · cases e
  · cases e
set_option maxHeartbeats 1000000
local macro_rules | `(tactic| simp! [$args,*]) => `(tactic| simp +contextual (maxSteps := 2000000) only [pure_app, bad_app, bind_app, then_ok, then_exc, then_bad, lift_app, toRes_some, toRes_none, ite_app, slot_zero, slot_succ, thenF_nx, thenF_rt, thenF_bk, thenF_ct, isB_bl, retF_rt, retF_nx, itemsOf_tup, itemsOf_lst, itemsOf_fl, itemsOf_str, tyName_non, tyName_bl, tyName_int, tyName_str, tyName_tup, tyName_lst, tyName_fl, tyName_dk, tyName_dt, seqOf_tup, lenOf_tup, seqOf_lst, lenOf_lst, seqOf_fl, lenOf_fl, listOf_lst, listOf_fl, lstOf_lst, lenOf_str, lenD_1, isi_eq, ltD_ii, ltD_ss, leD_ii, leD_ss, gtD_ii, gtD_ss, geD_ii, geD_ss, onI_ii, addD_ii, addD_ss, addD_tt, addD_ll, mulD_ii, mulD_si, mulD_li, ixD_si, ixD_tup, ixD_lst, ixD_fl, ixD_ob, intD_i, intD_b, absD_i, max2D_ii, min2D_ii, slD_s, slD_t, slD_l, intOf_i, joinD_1, upperD_0, reprBD_b, inD_eq, ninD_eq, eqD_eq, neD_eq, inB_sign, eqB_ss, eqB_ii, isD_n, isntD_n, tupleD_t, tupleD_l, listD_1, tyD_str, rng2_i, forM_nil, gSet_eq, bName_eq, wipeR_nil, wipeR_cons, obind_some, obind_none, omap_some, omap_none, kb_NoneType_int, kb_NoneType_bool, kb_NoneType_str, kb_NoneType_tuple, kb_NoneType_list, kb_NoneType_dict, kb_bool_int, kb_bool_bool, kb_bool_str, kb_bool_tuple, kb_bool_list, kb_bool_dict, kb_int_int, kb_int_bool, kb_int_str, kb_int_tuple, kb_int_list, kb_int_dict, kb_str_int, kb_str_bool, kb_str_str, kb_str_tuple, kb_str_list, kb_str_dict, kb_tuple_int, kb_tuple_bool, kb_tuple_str, kb_tuple_tuple, kb_tuple_list, kb_tuple_dict, kb_list_int, kb_list_bool, kb_list_str, kb_list_tuple, kb_list_list, kb_list_dict, kb_dict_int, kb_dict_bool, kb_dict_str, kb_dict_tuple, kb_dict_list, kb_dict_dict, seqS, ifS, retS, setS, dropS, skipS, asT, notT, andT, orT, ofT, andV, orV, notV, ifM, do2, opd, opd1, chain3, bltM, opl, consM, tupM, mkT, lstM, mkL, objMs, newL, alloc, fnM, methM, needT, oplm, sliceM, lcMM, oneM, valI, asgS, setIxS, forS, Bool.not_true, Bool.not_false, Bool.false_eq_true, if_false, if_true, reduceIte, List.set_cons_zero, List.set_cons_succ, decide_true, decide_false, Bool.true_and, Bool.false_and, Bool.and_true, Bool.and_false, Bool.true_or, Bool.false_or, Bool.or_true, Bool.or_false, sz_lit, disp1, keyOf_s, keyOf_i, pow59, pow15, pow39, pow38, pow590, aT, or_true, beq_self_eq_true, true_or, Int.reduceNeg, Int.reducePow, Int.reduceLT, Int.reduceLE, Int.reduceToNat, Nat.reduceAdd, Nat.reduceLeDiff, Nat.reducePow, and_self, and_true, true_and, false_and, and_false, or_false, false_or, List.length_cons, List.length_nil, ltTD_ii, ltTD_ss, lenDD_tup, lenDD_str, lenDD_lst, lenDD_dk, inDD_str, inDD_tup, inDD_dk, zipI, zip2_tt, zip2_ll, bSeq_2, cut1, ixDD_tup, at2_0, at2_1, at3_0, at3_1, at3_2, isiC_ty, isiC_ref, mulTD_ii, mulTD_t, negD_i, matchS, caseS, tagEq, noCase, setsD, List.getD_cons_zero, List.tail_cons, tupOf_t, Nat.reduceEqDiff, eq_self, List.length_map, sne_go_call, sne_go_raise, sne_go_leave, sne_call_go, sne_call_raise, sne_call_leave, sne_raise_go, sne_raise_call, sne_raise_leave, sne_leave_go, sne_leave_call, sne_leave_raise, at3_0', at3_2', at4_0', at4_2', at5_0', at5_2', at5_3', at6_0', at6_2', at6_3', at6_5', starM, seqM_app, List.map_nil, List.map_cons, List.append_nil, lc2M, lc2F, compM_S, ↓compS_map, compS_ok, compS_if, compS_no, compS_nil, compC_S, ↓compCS_map, compCS_ok, compCS_nil, compP_S, ↓compPS_map, compPS_ok, col_af, col_at, col_ta, col_fa, bol_af, bol_ta, bol_fa, bol_at, rt_col, rt_colT, ite_then, allD_map, anyD_map, allD_nil, allD_flatM, dcM, onePM, gtD_n, flat_map1, inB_nats, inB_strs, dinD_s, dinD_i, ixDD_dks, ixDD_dki, ixDD_lst, atI_n, idxTD_m, mulTD_1, cutL_hi, cutL_lo, eqB_tab, eqB_nats, zipD_map, enumD_map, upD_nat, map_eN, map_eNs, eN, eNm, eNs, eMs, ePs, eAs, eTab, Bool.not_not, ninDD_tup, ninDD_str, ninDD_lst, inDD_lst, ninDD_dk, dninD_s, nz_tz, nz_tup, tzOf_tz, rgD_n, rng1_n, nat_add, nat_add1, wipeFl_nx, wipeR_nil, wipeR_cons, $args,*])
noncomputable def bodB (c : Cs) : Rho → M Fl := (wipeS [] (seqS (setS 9 (do2 (lcMM [17] (fun ρ => (consM (fun _ => pure (.int 6)) (fun _ => pure [])) ρ >>= rng1) (bName 17) (fun _ => pure true) (do2 (fun ρ => lift (slot ρ 17)) (fun ρ => lift (slot ρ 7)) eqD)) (do2 (fun ρ => lift (slot ρ 6)) (fun ρ => lift (slot ρ 7)) ixDD) addD)) (ifS (orT (asT (do2 (fnM 1 (F__law_others c) (consM (fun ρ => lift (slot ρ 8)) (fun _ => pure []))) (fun ρ => lift (slot ρ 9)) neD)) (asT (do2 (fnM 1 (F__law_kinds c) (consM (fun ρ => lift (slot ρ 8)) (fun _ => pure []))) (do2 (lstM (consM (fun _ => pure (.bl false)) (fun _ => pure []))) (fun _ => pure (.int 11)) mulTD) neD))) (retS (fun _ => pure (.bl false))) skipS)))
noncomputable def bodA (c : Cs) : Rho → M Fl := (wipeS [] (seqS (setS 9 (do2 (do2 (lstM (consM (fun _ => pure (.bl true)) (fun _ => pure []))) (lcMM [17] (fun ρ => (consM (fun _ => pure (.int 1)) (consM (fun _ => pure (.int 9)) (fun _ => pure []))) ρ >>= rng2) (bName 17) (fun _ => pure true) (do2 (fun ρ => lift (slot ρ 17)) (fun ρ => lift (slot ρ 7)) eqD)) addD) (lstM (consM (fun _ => pure (.bl false)) (consM (fun _ => pure (.bl true)) (fun _ => pure [])))) addD)) (ifS (orT (asT (do2 (fnM 1 (F__law_kinds c) (consM (fun ρ => lift (slot ρ 8)) (fun _ => pure []))) (fun ρ => lift (slot ρ 9)) neD)) (asT (do2 (fnM 1 (F__law_others c) (consM (fun ρ => lift (slot ρ 8)) (fun _ => pure []))) (do2 (lstM (consM (fun _ => pure (.bl false)) (fun _ => pure []))) (fun _ => pure (.int 11)) mulTD) neD))) (retS (fun _ => pure (.bl false))) skipS)))
noncomputable def tlC (c : Cs) : Rho → M Fl := (seqS (setS 6 (do2 (do2 (lstM (consM (lstM (consM (fun _ => pure (.bl true)) (consM (fun _ => pure (.bl false)) (consM (fun _ => pure (.bl true)) (consM (fun _ => pure (.bl false)) (consM (fun _ => pure (.bl false)) (fun _ => pure []))))))) (fun _ => pure []))) (fun _ => pure (.int 2)) mulTD) (lstM (consM (lstM (consM (fun _ => pure (.bl false)) (consM (fun _ => pure (.bl true)) (consM (fun _ => pure (.bl true)) (consM (fun _ => pure (.bl false)) (consM (fun _ => pure (.bl false)) (fun _ => pure []))))))) (fun _ => pure []))) addD)) (seqS (setS 6 (addOM (fun ρ => lift (slot ρ 6)) (lstM (consM (lstM (consM (fun _ => pure (.bl false)) (consM (fun _ => pure (.bl false)) (consM (fun _ => pure (.bl true)) (consM (fun _ => pure (.bl false)) (consM (fun _ => pure (.bl false)) (fun _ => pure []))))))) (consM (lstM (consM (fun _ => pure (.bl false)) (consM (fun _ => pure (.bl false)) (consM (fun _ => pure (.bl false)) (consM (fun _ => pure (.bl true)) (consM (fun _ => pure (.bl false)) (fun _ => pure []))))))) (fun _ => pure [])))))) (seqS (dropS (methS "list" (fun ρ => lift (slot ρ 6)) (consM (lstM (consM (fun _ => pure (.bl false)) (consM (fun _ => pure (.bl false)) (consM (fun _ => pure (.bl false)) (consM (fun _ => pure (.bl true)) (consM (fun _ => pure (.bl true)) (fun _ => pure []))))))) (fun _ => pure [])) appendM)) (seqS (forS (fun ρ => (consM (lstM (consM (fun ρ => lift (slot ρ 10)) (consM (fun ρ => lift (slot ρ 11)) (consM (fun ρ => lift (slot ρ 12)) (consM (fun ρ => lift (slot ρ 13)) (consM (fun ρ => lift (slot ρ 14)) (consM (fun ρ => lift (slot ρ 15)) (fun _ => pure [])))))))) (fun _ => pure [])) ρ >>= enumI) (gSeqM 2 (gConsM (gSet 7) (gConsM (gSet 8) gNilM))) (bodB c)) (retS (fun _ => pure (.bl true)))))))
noncomputable def tlB (c : Cs) : Rho → M Fl := (seqS (setS 5 (lstM (consM (xofM c.ParseError "line" (fun ρ => lift (slot ρ 4))) (consM (xofM c.UnknownName "name" (fun ρ => lift (slot ρ 10))) (consM (xofM c.UnknownSite "site" (fun ρ => lift (slot ρ 11))) (consM (xofM c.InvalidNumber "value" (fun ρ => lift (slot ρ 12))) (consM (xofM c.NothingToUndo "many" (fun ρ => lift (slot ρ 13))) (consM (xofM c.Refused "name" (fun ρ => lift (slot ρ 14))) (consM (xofM c.TooMany "limit" (fun ρ => lift (slot ρ 15))) (fun _ => pure [])))))))))) (seqS (ifS (asT (do2 (bltM (consM (fun ρ => lift (slot ρ 5)) (fun _ => pure [])) rpr0) (bltM (consM (fun ρ => lift (slot ρ 2)) (fun _ => pure [])) rpr0) neD)) (retS (fun _ => pure (.bl false))) skipS) (tlC c)))
noncomputable def tlA (c : Cs) : Rho → M Fl := (seqS (setS 4 (xo2M c.ParseError "line" (do2 (fun ρ => lift (slot ρ 2)) (fun _ => pure (.int 0)) ixDD))) (seqS (ifS (orT (asT (do2 (fnM 1 (F__law_kinds c) (consM (fun ρ => lift (slot ρ 4)) (fun _ => pure []))) (do2 (do2 (lstM (consM (fun _ => pure (.bl true)) (fun _ => pure []))) (do2 (lstM (consM (fun _ => pure (.bl false)) (fun _ => pure []))) (fun _ => pure (.int 8)) mulTD) addD) (lstM (consM (fun _ => pure (.bl true)) (consM (fun _ => pure (.bl true)) (fun _ => pure [])))) addD) neD)) (asT (do2 (fnM 1 (F__law_others c) (consM (fun ρ => lift (slot ρ 4)) (fun _ => pure []))) (do2 (lstM (consM (fun _ => pure (.bl false)) (fun _ => pure []))) (fun _ => pure (.int 11)) mulTD) neD))) (retS (fun _ => pure (.bl false))) skipS) (seqS (parS3 10 11 12 (consM (xo2M c.UnknownName "name" (do2 (fun ρ => lift (slot ρ 2)) (fun _ => pure (.int 1)) ixDD)) (consM (xo2M c.UnknownSite "site" (do2 (fun ρ => lift (slot ρ 2)) (fun _ => pure (.int 2)) ixDD)) (consM (xo2M c.InvalidNumber "value" (do2 (fun ρ => lift (slot ρ 2)) (fun _ => pure (.int 3)) ixDD)) (fun _ => pure []))))) (seqS (parS3 13 14 15 (consM (xo2M c.NothingToUndo "many" (do2 (fun ρ => lift (slot ρ 2)) (fun _ => pure (.int 4)) ixDD)) (consM (xo2M c.Refused "name" (do2 (fun ρ => lift (slot ρ 2)) (fun _ => pure (.int 5)) ixDD)) (consM (xo2M c.TooMany "limit" (do2 (fun ρ => lift (slot ρ 2)) (fun _ => pure (.int 6)) ixDD)) (fun _ => pure []))))) (tlB c)))))
def dueA (i : Nat) : D := .lst ([.bl true] ++ ((List.range 8).map fun k => .bl (decide (k + 1 = i))) ++ [.bl false, .bl true])
theorem dueA_ok {i : Nat} (hi : i < 9) (S : List MO) : eqB S (res_law_kinds i) (dueA i) = some true := by
  match i, hi with
  | 0, _ | 1, _ | 2, _ | 3, _ | 4, _ | 5, _ | 6, _ | 7, _ | 8, _ => rfl
theorem othA_ok {i : Nat} (hi : i < 10) (S : List MO) : eqB S (res_law_others i) (.lst (List.replicate 11 (.bl false))) = some true := by
  match i, hi with
  | 0, _ | 1, _ | 2, _ | 3, _ | 4, _ | 5, _ | 6, _ | 7, _ | 8, _ | 9, _ => rfl
theorem bodA_ok {c : Cs} (hk : K00Ok c) {i : Nat} (hi : i < 9) {w0 s1 s2 s3 : D} {a7 a8 a9 : Option D} (S : List MO) :
    (gSeqM 2 (gConsM (gSet 7) (gConsM (gSet 8) gNilM)) (.tup [.int (i : Nat), .xo (cl0 c i) [] []]) [some w0, some s1, some s2, some s3, none, none, none, a7, a8, a9, none, none, none, none, none, none, none, none] >>= bodA c) S = .ok (.nx [some w0, some s1, some s2, some s3, none, none, none, some (.int (i : Nat)), some (.xo (cl0 c i) [] []), some (dueA i), none, none, none, none, none, none, none, none]) S := by
  have k1 := fun S => ex_law_kinds hk (show i < 16 by omega) [] [] S
  have k2 := fun S => ex_law_others hk (show i < 16 by omega) [] [] S
  have k3 := fun S => dueA_ok hi S
  have k4 := fun S => othA_ok (show i < 10 by omega) S
  have e17 : (List.replicate 11 (D.bl false)) = [.bl false, .bl false, .bl false, .bl false, .bl false, .bl false, .bl false, .bl false, .bl false, .bl false, .bl false] := rfl
  have l8 : 8 ≤ sizeLine := by decide
  have l9 : 9 ≤ sizeLine := by decide
  have l11 : 11 ≤ sizeLine := by decide
  have nI : ∀ k : Nat, decide (((k + 1 : Nat) : Int) = (i : Int)) = decide (k + 1 = i) := fun k => by rw [decide_eq_decide]; omega
  have dd : dueA i = .lst ([.bl true] ++ ((List.range 8).map fun k => .bl (decide (k + 1 = i))) ++ [.bl false, .bl true]) := rfl
  have m11 : ∀ S, mulTD S (.lst [.bl false]) (.int 11) = some (.lst (List.replicate 11 (.bl false))) := fun S => by first | rfl | (show mulD S _ _ = _; rw [mulD_li]; rfl)
  have ru : upD 1 (((9 : Int) - 1).toNat) = (List.range 8).map fun k => D.int ((k + 1 : Nat) : Int) := rfl
  generalize res_law_kinds i = R1 at *
  generalize res_law_others i = R2 at *
  generalize D.xo (cl0 c i) [] [] = X at *
  simp! [gSet, gSeqM, gConsM_c, gNilM_n, still_t, bodA, wipeS, ru, m11, k1, k2, eqD_eq, eqB_ii, nI, l8, l9, l11, List.length_map, List.length_range, List.length_append, ← dd, k3, k4]
def rowsB : List D := [.lst [.bl true, .bl false, .bl true, .bl false, .bl false], .lst [.bl true, .bl false, .bl true, .bl false, .bl false], .lst [.bl false, .bl true, .bl true, .bl false, .bl false], .lst [.bl false, .bl false, .bl true, .bl false, .bl false], .lst [.bl false, .bl false, .bl false, .bl true, .bl false], .lst [.bl false, .bl false, .bl false, .bl true, .bl true]]
def dueB (i : Nat) : D := .lst (((List.range 6).map fun k => .bl (decide (k = i))) ++ (match rowsB.getD i .non with | .lst xs => xs | _ => []))
theorem dueB_ok {i : Nat} (hi : i < 6) (S : List MO) : eqB S (res_law_others (10 + i)) (dueB i) = some true := by
  match i, hi with
  | 0, _ | 1, _ | 2, _ | 3, _ | 4, _ | 5, _ => rfl
theorem kinB_ok {i : Nat} (hi : i < 6) (S : List MO) : eqB S (res_law_kinds (10 + i)) (.lst (List.replicate 11 (.bl false))) = some true := by
  match i, hi with
  | 0, _ | 1, _ | 2, _ | 3, _ | 4, _ | 5, _ => rfl
theorem addB_ok {i : Nat} (hi : i < 6) (S : List MO) : addD S (.lst ((List.range 6).map fun k => .bl (decide (k = i)))) (rowsB.getD i .non) = some (dueB i) := by
  match i, hi with
  | 0, _ | 1, _ | 2, _ | 3, _ | 4, _ | 5, _ => rfl
theorem m11 (S : List MO) : mulTD S (.lst [.bl false]) (.int 11) = some (.lst (List.replicate 11 (.bl false))) := by first | rfl | (show mulD S _ _ = _; rw [mulD_li]; rfl)
theorem bodB_ok {c : Cs} (hk : K00Ok c) {i : Nat} (hi : i < 6) {ns : List Str} {ds : List D} {w0 s1 s2 s3 s4 s5 s6 x0 x1 x2 x3 x4 x5 : D} {a7 a8 a9 : Option D} {S : List MO} {X : D} (hX : X = .xo (cl0 c (10 + i)) ns ds) (h6 : ixDD S s6 (.int (i : Nat)) = some (rowsB.getD i .non)) :
    (gSeqM 2 (gConsM (gSet 7) (gConsM (gSet 8) gNilM)) (.tup [.int (i : Nat), X]) [some w0, some s1, some s2, some s3, some s4, some s5, some s6, a7, a8, a9, some x0, some x1, some x2, some x3, some x4, some x5, none, none] >>= bodB c) S = .ok (.nx [some w0, some s1, some s2, some s3, some s4, some s5, some s6, some (.int (i : Nat)), some X, some (dueB i), some x0, some x1, some x2, some x3, some x4, some x5, none, none]) S := by
  have k1 := fun S => ex_law_kinds hk (show 10 + i < 16 by omega) ns ds S
  have k2 := fun S => ex_law_others hk (show 10 + i < 16 by omega) ns ds S
  have k3 := fun S => dueB_ok hi S
  have k4 := fun S => kinB_ok hi S
  have k5 := fun S => addB_ok hi S
  have l6 : 6 ≤ sizeLine := by decide
  have hr : rng1 [.int 6] = pure ((List.range 6).map eN) := rng1_n 6 (by decide)
  have nI : ∀ k : Nat, decide ((k : Int) = (i : Int)) = decide (k = i) := fun k => by rw [decide_eq_decide]; omega
  rw [← hX] at k1 k2
  generalize rowsB.getD i .non = RW at *
  generalize dueB i = DU at *
  generalize res_law_kinds (10 + i) = R1 at *
  generalize res_law_others (10 + i) = R2 at *
  clear hX
  simp! [gSet, gSeqM, gConsM_c, gNilM_n, still_t, bodB, wipeS, eN, hr, m11, k1, k2, k3, k4, k5, h6, eqD_eq, eqB_ii, nI, l6, List.length_map, List.length_range, List.length_append]
theorem rowsM (S : List MO) : mulTD S (.lst [.lst [.bl true, .bl false, .bl true, .bl false, .bl false]]) (.int 2) = some (.lst [.lst [.bl true, .bl false, .bl true, .bl false, .bl false], .lst [.bl true, .bl false, .bl true, .bl false, .bl false]]) := by first | rfl | (show mulD S _ _ = _; rw [mulD_li]; rfl)
theorem rows_at {S : List MO} {i : Nat} (hi : i < 6) : ixDD (S ++ [.ml rowsB]) (.ob S.length) (.int (i : Nat)) = some (rowsB.getD i .non) := by
  unfold ixDD
  rw [show dictOf (S ++ [.ml rowsB]) (.ob S.length) = none by (show (match (S ++ [MO.ml rowsB])[S.length]? with | some (.mk ks vs) => some (ks, vs) | _ => none) = none); rw [app_get0 S (.ml rowsB) []]]
  rw [if_neg (by simp), ixD_ob, seqOf_ob (app_get0 S (.ml rowsB) []), Option.bind_some, atI_n]
  match i, hi with
  | 0, _ | 1, _ | 2, _ | 3, _ | 4, _ | 5, _ => rfl
theorem tlC_ok {c : Cs} (hk : K00Ok c) {n0 n1 n2 n3 n4 n5 : List Str} {d0 d1 d2 d3 d4 d5 : List D} {w0 s1 s2 s3 s4 s5 x0 x1 x2 x3 x4 x5 : D} {a7 a8 a9 : Option D} {S : List MO}
    (h0 : x0 = .xo (cl0 c 10) n0 d0) (h1 : x1 = .xo (cl0 c 11) n1 d1) (h2 : x2 = .xo (cl0 c 12) n2 d2) (h3 : x3 = .xo (cl0 c 13) n3 d3) (h4 : x4 = .xo (cl0 c 14) n4 d4) (h5 : x5 = .xo (cl0 c 15) n5 d5) :
    Ret (tlC c [some w0, some s1, some s2, some s3, some s4, some s5, none, a7, a8, a9, some x0, some x1, some x2, some x3, some x4, some x5, none, none] S) fun fl S' => fl = .rt (.bl true) ∧ S' = S ++ [.ml rowsB] := by
  have e1 : ∀ S, mulTD S (.lst [.lst [.bl true, .bl false, .bl true, .bl false, .bl false]]) (.int 2) = some (.lst [.lst [.bl true, .bl false, .bl true, .bl false, .bl false], .lst [.bl true, .bl false, .bl true, .bl false, .bl false]]) := rowsM
  have e2 : catO (.lst [.lst [.bl true, .bl false, .bl true, .bl false, .bl false], .lst [.bl true, .bl false, .bl true, .bl false, .bl false], .lst [.bl false, .bl true, .bl true, .bl false, .bl false]]) (.lst [.lst [.bl false, .bl false, .bl true, .bl false, .bl false], .lst [.bl false, .bl false, .bl false, .bl true, .bl false]]) S = .ok (.ob S.length) (S ++ [.ml [.lst [.bl true, .bl false, .bl true, .bl false, .bl false], .lst [.bl true, .bl false, .bl true, .bl false, .bl false], .lst [.bl false, .bl true, .bl true, .bl false, .bl false], .lst [.bl false, .bl false, .bl true, .bl false, .bl false], .lst [.bl false, .bl false, .bl false, .bl true, .bl false]]]) := catO_ll _ _ S (by decide)
  have e3 : appendM (.ob S.length) [.lst [.bl false, .bl false, .bl false, .bl true, .bl true]] (S ++ [.ml [.lst [.bl true, .bl false, .bl true, .bl false, .bl false], .lst [.bl true, .bl false, .bl true, .bl false, .bl false], .lst [.bl false, .bl true, .bl true, .bl false, .bl false], .lst [.bl false, .bl false, .bl true, .bl false, .bl false], .lst [.bl false, .bl false, .bl false, .bl true, .bl false]]]) = .ok .non (S ++ [.ml rowsB]) := append_own (r := []) (by decide)
  have e4 : enumD [x0, x1, x2, x3, x4, x5] = (List.range 6).map (fun i => .tup [.int (i : Nat), [x0, x1, x2, x3, x4, x5].getD i .non]) := rfl
  have ty : ∀ xs, tyD "list" (S ++ [.ml xs]) (.ob S.length) = true := fun xs => by show (match listOf (S ++ [MO.ml xs]) (.ob S.length) with | some _ => ("list" == "list") | none => _) = true; rw [show listOf (S ++ [MO.ml xs]) (.ob S.length) = some xs from (by show (match (S ++ [MO.ml xs])[S.length]? with | some (.ml ys) => some ys | _ => none) = some xs; rw [app_get0 S (.ml xs) []])]; rfl
  have l2 : 2 ≤ sizeLine := by decide
  have l3 : 3 ≤ sizeLine := by decide
  have l5 : 5 ≤ sizeLine := by decide
  have l6 : 6 ≤ sizeLine := by decide
  have a3 : ∀ S, addD S (.lst [.lst [.bl true, .bl false, .bl true, .bl false, .bl false], .lst [.bl true, .bl false, .bl true, .bl false, .bl false]]) (.lst [.lst [.bl false, .bl true, .bl true, .bl false, .bl false]]) = some (.lst [.lst [.bl true, .bl false, .bl true, .bl false, .bl false], .lst [.bl true, .bl false, .bl true, .bl false, .bl false], .lst [.bl false, .bl true, .bl true, .bl false, .bl false]]) := fun S => rfl
  simp! [tlC, addOM, e1, e2, e3, a3, enumI_l, e4, l2, l3, l5, l6, methS, dropS, ty]
  simp only [Ret_then]
  refine forM_all (fun i => .tup [.int (i : Nat), [x0, x1, x2, x3, x4, x5].getD i .non]) (List.range 6) (fun pre ρ S' => (∃ b7 b8 b9 : Option D, ρ = [some w0, some s1, some s2, some s3, some s4, some s5, some (.ob S.length), b7, b8, b9, some x0, some x1, some x2, some x3, some x4, some x5, none, none]) ∧ S' = S ++ [.ml rowsB]) ⟨⟨_, _, _, rfl⟩, rfl⟩ ?_ ?_
  · rintro pre i post e _ _ ⟨⟨b7, b8, b9, rfl⟩, rfl⟩
    have hi : i < 6 := by
      have : i ∈ List.range 6 := by rw [e]; simp
      exact List.mem_range.mp this
    have hx : ∃ ns ds, [x0, x1, x2, x3, x4, x5].getD i .non = .xo (cl0 c (10 + i)) ns ds := by
      match i, hi with
      | 0, _ => exact ⟨_, _, h0⟩
      | 1, _ => exact ⟨_, _, h1⟩
      | 2, _ => exact ⟨_, _, h2⟩
      | 3, _ => exact ⟨_, _, h3⟩
      | 4, _ => exact ⟨_, _, h4⟩
      | 5, _ => exact ⟨_, _, h5⟩
    obtain ⟨ns, ds, hx⟩ := hx
    rw [bodB_ok hk hi hx (rows_at hi)]
    exact ⟨_, rfl, ⟨_, _, _, rfl⟩, rfl⟩
  · rintro _ _ ⟨⟨b7, b8, b9, rfl⟩, rfl⟩
    simp! [Ret_ok]
theorem tlB_ok {c : Cs} (hk : K00Ok c) {w0 s1 s3 i0 i1 i2 i3 i4 i5 i6 : D} {a7 a8 a9 : Option D} {S : List MO} {z : Str} (hz : ∀ S, rpr0 S [.lst [i0, i1, i2, i3, i4, i5, i6]] = some (.str z)) :
    Ret (tlB c [some w0, some s1, some (.lst [i0, i1, i2, i3, i4, i5, i6]), some s3, some (.xo c.ParseError ["line"] [i0]), none, none, a7, a8, a9, some (.xo c.UnknownName ["name"] [i1]), some (.xo c.UnknownSite ["site"] [i2]), some (.xo c.InvalidNumber ["value"] [i3]), some (.xo c.NothingToUndo ["many"] [i4]), some (.xo c.Refused ["name"] [i5]), some (.xo c.TooMany ["limit"] [i6]), none, none] S) fun fl S' => fl = .rt (.bl true) ∧ S' = S ++ [.ml rowsB] := by
  have f0 : ∀ S, xfD c.ParseError "line" S (.xo c.ParseError ["line"] [i0]) = some i0 := fun S => by show (if c.ParseError = c.ParseError then look ["line"] [i0] "line" else none) = _; rw [if_pos rfl]; rfl
  have f1 : ∀ S, xfD c.UnknownName "name" S (.xo c.UnknownName ["name"] [i1]) = some i1 := fun S => by show (if c.UnknownName = c.UnknownName then look ["name"] [i1] "name" else none) = _; rw [if_pos rfl]; rfl
  have f2 : ∀ S, xfD c.UnknownSite "site" S (.xo c.UnknownSite ["site"] [i2]) = some i2 := fun S => by show (if c.UnknownSite = c.UnknownSite then look ["site"] [i2] "site" else none) = _; rw [if_pos rfl]; rfl
  have f3 : ∀ S, xfD c.InvalidNumber "value" S (.xo c.InvalidNumber ["value"] [i3]) = some i3 := fun S => by show (if c.InvalidNumber = c.InvalidNumber then look ["value"] [i3] "value" else none) = _; rw [if_pos rfl]; rfl
  have f4 : ∀ S, xfD c.NothingToUndo "many" S (.xo c.NothingToUndo ["many"] [i4]) = some i4 := fun S => by show (if c.NothingToUndo = c.NothingToUndo then look ["many"] [i4] "many" else none) = _; rw [if_pos rfl]; rfl
  have f5 : ∀ S, xfD c.Refused "name" S (.xo c.Refused ["name"] [i5]) = some i5 := fun S => by show (if c.Refused = c.Refused then look ["name"] [i5] "name" else none) = _; rw [if_pos rfl]; rfl
  have f6 : ∀ S, xfD c.TooMany "limit" S (.xo c.TooMany ["limit"] [i6]) = some i6 := fun S => by show (if c.TooMany = c.TooMany then look ["limit"] [i6] "limit" else none) = _; rw [if_pos rfl]; rfl
  have hC := fun (s5 : D) => tlC_ok (c := c) hk (n0 := ["name"]) (n1 := ["site"]) (n2 := ["value"]) (n3 := ["many"]) (n4 := ["name"]) (n5 := ["limit"]) (d0 := [i1]) (d1 := [i2]) (d2 := [i3]) (d3 := [i4]) (d4 := [i5]) (d5 := [i6]) (w0 := w0) (s1 := s1) (s2 := .lst [i0, i1, i2, i3, i4, i5, i6]) (s3 := s3) (s4 := .xo c.ParseError ["line"] [i0]) (s5 := s5) (a7 := a7) (a8 := a8) (a9 := a9) (S := S) rfl rfl rfl rfl rfl rfl
  have l7 : 7 ≤ sizeLine := by decide
  simp! [tlB, xofM, opd1, f0, f1, f2, f3, f4, f5, f6, hz, l7, neD_eq, eqB_ss]
  exact hC _
theorem kinP_ok (S : List MO) : eqB S (res_law_kinds 9) (.lst ([.bl true] ++ List.replicate 8 (.bl false) ++ [.bl true, .bl true])) = some true := rfl
theorem m8 (S : List MO) : mulTD S (.lst [.bl false]) (.int 8) = some (.lst (List.replicate 8 (.bl false))) := by first | rfl | (show mulD S _ _ = _; rw [mulD_li]; rfl)
theorem tlA_ok {c : Cs} (hk : K00Ok c) {w0 s1 s3 i0 i1 i2 i3 i4 i5 i6 : D} {a7 a8 a9 : Option D} {S : List MO} {z : Str} (hz : ∀ S, rpr0 S [.lst [i0, i1, i2, i3, i4, i5, i6]] = some (.str z)) :
    Ret (tlA c [some w0, some s1, some (.lst [i0, i1, i2, i3, i4, i5, i6]), some s3, none, none, none, a7, a8, a9, none, none, none, none, none, none, none, none] S) fun fl S' => fl = .rt (.bl true) ∧ S' = S ++ [.ml rowsB] := by
  have hB := tlB_ok (c := c) hk (w0 := w0) (s1 := s1) (s3 := s3) (a7 := a7) (a8 := a8) (a9 := a9) (S := S) hz
  have k1 : ∀ S, F__law_kinds c [.xo c.ParseError ["line"] [i0]] S = .ok (res_law_kinds 9) S := fun S => ex_law_kinds hk (i := 9) (by decide) ["line"] [i0] S
  have k2 : ∀ S, F__law_others c [.xo c.ParseError ["line"] [i0]] S = .ok (res_law_others 9) S := fun S => ex_law_others hk (i := 9) (by decide) ["line"] [i0] S
  have k3 := kinP_ok
  have k4 := fun S => othA_ok (i := 9) (by decide) S
  have a1 : ∀ S, addD S (.lst [.bl true]) (.lst (List.replicate 8 (.bl false))) = some (.lst ([.bl true] ++ List.replicate 8 (.bl false))) := fun S => rfl
  have a2 : ∀ S, addD S (.lst ([.bl true] ++ List.replicate 8 (.bl false))) (.lst [.bl true, .bl true]) = some (.lst ([.bl true] ++ List.replicate 8 (.bl false) ++ [.bl true, .bl true])) := fun S => rfl
  have q0 : ∀ S, ixDD S (.lst [i0, i1, i2, i3, i4, i5, i6]) (.int 0) = some i0 := fun S => rfl
  have q1 : ∀ S, ixDD S (.lst [i0, i1, i2, i3, i4, i5, i6]) (.int 1) = some i1 := fun S => rfl
  have q2 : ∀ S, ixDD S (.lst [i0, i1, i2, i3, i4, i5, i6]) (.int 2) = some i2 := fun S => rfl
  have q3 : ∀ S, ixDD S (.lst [i0, i1, i2, i3, i4, i5, i6]) (.int 3) = some i3 := fun S => rfl
  have q4 : ∀ S, ixDD S (.lst [i0, i1, i2, i3, i4, i5, i6]) (.int 4) = some i4 := fun S => rfl
  have q5 : ∀ S, ixDD S (.lst [i0, i1, i2, i3, i4, i5, i6]) (.int 5) = some i5 := fun S => rfl
  have q6 : ∀ S, ixDD S (.lst [i0, i1, i2, i3, i4, i5, i6]) (.int 6) = some i6 := fun S => rfl
  have l1 : 1 ≤ sizeLine := by decide
  have l2 : 2 ≤ sizeLine := by decide
  generalize hq1 : ([D.bl true] ++ List.replicate 8 (.bl false) ++ [.bl true, .bl true]) = Q1 at *
  generalize hq2 : ([D.bl true] ++ List.replicate 8 (.bl false)) = Q2 at *
  generalize hq3 : (List.replicate 8 (D.bl false)) = Q3 at *
  generalize res_law_kinds 9 = R1 at *
  generalize res_law_others 9 = R2 at *
  have m8 : ∀ S, mulTD S (.lst [.bl false]) (.int 8) = some (.lst Q3) := fun S => by rw [← hq3]; exact m8 S
  simp! [tlA, xo2M, parS3, m8, m11, a1, a2, k1, k2, k3, k4, q0, q1, q2, q3, q4, q5, q6, l1, l2]
  exact hB
set_option maxHeartbeats 4000000
mutual
/-- a bound of what repr prints -/
def wt0 : D → Nat
  | .non => 4
  | .bl _ => 5
  | .int i => (Str.ofString (toString i)).length
  | .str x => (reprText x).length
  | .tup xs => wts0 xs + 3
  | .lst xs => wts0 xs + 3
  | .fl xs => wts0 xs + 3
  | .dk _ _ => 2
  | _ => 4
def wts0 : List D → Nat
  | [] => 0
  | d :: ds => wt0 d + 2 + wts0 ds
end
mutual
theorem shown_wt0 : ∀ d : D, (pyD d).shown.length ≤ wt0 d
  | .non => by unfold wt0; show (PyData.shown .none).length ≤ 4; decide +kernel
  | .bl true => by unfold wt0; show (PyData.shown (.bool true)).length ≤ 5; decide +kernel
  | .bl false => by unfold wt0; show (PyData.shown (.bool false)).length ≤ 5; decide +kernel
  | .int i => by unfold wt0; exact Nat.le_refl _
  | .str x => by unfold wt0; exact Nat.le_refl _
  | .tup xs => by
    unfold wt0; show (tupleText (PyData.shownAll (pyDs xs))).length ≤ _
    have := tupleText_len_le (PyData.shownAll (pyDs xs))
    have := shown_wts0 xs
    omega
  | .lst xs => by
    unfold wt0; show (listText (PyData.shownAll (pyDs xs))).length ≤ _
    have := listText_len_le (PyData.shownAll (pyDs xs))
    have := shown_wts0 xs
    omega
  | .fl xs => by
    unfold wt0; show (listText (PyData.shownAll (pyDs xs))).length ≤ _
    have := listText_len_le (PyData.shownAll (pyDs xs))
    have := shown_wts0 xs
    omega
  | .dk _ _ => by unfold wt0; show (PyData.shown (.dict [])).length ≤ 2; decide +kernel
  | .dt _ _ => by unfold wt0; show (PyData.shown .none).length ≤ 4; decide +kernel
  | .ins _ _ _ => by unfold wt0; show (PyData.shown .none).length ≤ 4; decide +kernel
  | .ob _ => by unfold wt0; show (PyData.shown .none).length ≤ 4; decide +kernel
  | .ty _ => by unfold wt0; show (PyData.shown .none).length ≤ 4; decide +kernel
  | .ref _ => by unfold wt0; show (PyData.shown .none).length ≤ 4; decide +kernel
  | .tz _ => by unfold wt0; show (PyData.shown .none).length ≤ 4; decide +kernel
  | .lam _ _ _ _ _ => by unfold wt0; show (PyData.shown .none).length ≤ 4; decide +kernel
  | .xo _ _ _ => by unfold wt0; show (PyData.shown .none).length ≤ 4; decide +kernel
theorem shown_wts0 : ∀ ds : List D, ((PyData.shownAll (pyDs ds)).map (·.length)).sum + 2 * (PyData.shownAll (pyDs ds)).length ≤ wts0 ds
  | [] => by unfold wts0; exact Nat.le_refl _
  | d :: ds => by
    have h1 := shown_wt0 d
    have h2 := shown_wts0 ds
    unfold wts0
    show (((pyD d).shown.length :: (PyData.shownAll (pyDs ds)).map (·.length)).sum + 2 * ((PyData.shownAll (pyDs ds)).length + 1)) ≤ _
    rw [List.sum_cons]
    omega
end
mutual
/-- its numbers can be printed -/
def sh0 : D → Bool
  | .int i => decide (i.natAbs.log2 < 1920)
  | .tup xs => shs0 xs
  | .lst xs => shs0 xs
  | .fl xs => shs0 xs
  | _ => true
def shs0 : List D → Bool
  | [] => true
  | d :: ds => sh0 d && shs0 ds
end
mutual
theorem sh_py0 : ∀ d : D, sh0 d = true → (pyD d).showable = true
  | .non, _ => rfl
  | .bl _, _ => rfl
  | .int i, h => h
  | .str x, _ => rfl
  | .tup xs, h => by unfold sh0 at h; exact shs_py0 xs h
  | .lst xs, h => by unfold sh0 at h; exact shs_py0 xs h
  | .fl xs, h => by unfold sh0 at h; exact shs_py0 xs h
  | .dk _ _, _ => rfl
  | .dt _ _, _ => rfl
  | .ins _ _ _, _ => rfl
  | .ob _, _ => rfl
  | .ty _, _ => rfl
  | .ref _, _ => rfl
  | .tz _, _ => rfl
  | .lam _ _ _ _ _, _ => rfl
  | .xo _ _ _, _ => rfl
theorem shs_py0 : ∀ ds : List D, shs0 ds = true → PyData.showableAll (pyDs ds) = true
  | [], _ => rfl
  | d :: ds, h => by
    unfold shs0 at h
    rw [Bool.and_eq_true] at h
    show ((pyD d).showable && PyData.showableAll (pyDs ds)) = true
    rw [sh_py0 d h.1, shs_py0 ds h.2]; rfl
end
/-- data of which a list's repr is told -/
def rp0 (d : D) : Bool := D.dat0 59 d && sh0 d && decide (wt0 d ≤ 100)
theorem rp0_list : ∀ {xs : List D}, (∀ d ∈ xs, rp0 d = true) → D.dat0s 59 xs = true ∧ shs0 xs = true ∧ wts0 xs ≤ 102 * xs.length
  | [], _ => ⟨by unfold D.dat0s; rfl, by unfold shs0; rfl, by unfold wts0; exact Nat.zero_le _⟩
  | d :: ds, h => by
    obtain ⟨h1, h2, h3⟩ := rp0_list (xs := ds) fun x hx => h x (List.mem_cons_of_mem _ hx)
    have q := h d List.mem_cons_self
    unfold rp0 at q
    simp only [Bool.and_eq_true, decide_eq_true_eq] at q
    refine ⟨by unfold D.dat0s; rw [q.1.1, h1]; rfl, by unfold shs0; rw [q.1.2, h2]; rfl, ?_⟩
    unfold wts0
    rw [List.length_cons]
    omega
theorem rpr0_ok {xs : List D} (h : ∀ d ∈ xs, rp0 d = true) (hl : xs.length ≤ 100) : ∃ z : Str, ∀ S, rpr0 S [.lst xs] = some (.str z) := by
  obtain ⟨h1, h2, h3⟩ := rp0_list h
  refine ⟨(pyD (.lst xs)).shown, fun S => ?_⟩
  show (if D.dat0s 59 xs = true ∧ (pyD (D.lst xs)).showable = true ∧ (pyD (D.lst xs)).shown.length ≤ sizeLine then some (D.str (pyD (D.lst xs)).shown) else none) = _
  have hw : wt0 (.lst xs) ≤ sizeLine := by
    unfold wt0
    exact Nat.le_trans (m := 100000) (by omega) (by decide)
  exact if_pos ⟨h1, sh_py0 (.lst xs) (by unfold sh0; exact h2), Nat.le_trans (shown_wt0 (.lst xs)) hw⟩
set_option maxHeartbeats 1000000
def some0 : List D := [.int 0, .int 7, .str "a", .str "", .tup [.str "p", .int 1], .non, .int (-1), .int 100000000000000000000000000000000000000, .lst [.int 0], .dk [] [], .bl false, .tup [], .str "no name", .tup [.tup []]]
def words0 : List D := [.str "", .str "why", .str "two words"]
theorem some0_rp : ∀ d ∈ some0, rp0 d = true := by
  have h : some0.all rp0 = true := by decide +kernel
  exact fun d hd => List.all_eq_true.mp h d hd
theorem words0_str : ∀ d ∈ words0, ∃ x : Str, d = .str x := by
  intro d hd
  simp only [words0, List.mem_cons, List.not_mem_nil, or_false] at hd
  rcases hd with rfl | rfl | rfl <;> exact ⟨_, rfl⟩
theorem len7 {its : List D} (h : its.length = 7) : ∃ i0 i1 i2 i3 i4 i5 i6, its = [i0, i1, i2, i3, i4, i5, i6] := by
  match its, h with
  | [i0, i1, i2, i3, i4, i5, i6], _ => exact ⟨_, _, _, _, _, _, _, rfl⟩
noncomputable def den__law_right (c : Cs) : Rho → M Fl := (seqS (setS 1 (lstM (consM (fun _ => pure (.int 0)) (consM (fun _ => pure (.int 7)) (consM (fun _ => pure (.str "a")) (consM (fun _ => pure (.str "")) (consM (tupM (consM (fun _ => pure (.str "p")) (consM (fun _ => pure (.int 1)) (fun _ => pure [])))) (consM (fun _ => pure .non) (consM (fun ρ => (fun _ => pure (.int 1)) ρ >>= opd1 negD) (consM (do2 (fun _ => pure (.int 10)) (fun _ => pure (.int 38)) powDW) (consM (lstM (consM (fun _ => pure (.int 0)) (fun _ => pure []))) (consM (fun _ => pure (.dk [] [])) (consM (fun _ => pure (.bl false)) (consM (tupM (fun _ => pure [])) (consM (fun _ => pure (.str "no name")) (consM (tupM (consM (tupM (fun _ => pure [])) (fun _ => pure []))) (fun _ => pure []))))))))))))))))) (seqS (setS 2 (lcMM [16] (fun ρ => (consM (fun _ => pure (.int 7)) (fun _ => pure [])) ρ >>= rng1) (bName 16) (fun _ => pure true) (fnM 2 (F__law_choose c) (consM (fun ρ => lift (slot ρ 0)) (consM (fun ρ => lift (slot ρ 1)) (fun _ => pure [])))))) (seqS (setS 3 (fnM 2 (F__law_choose c) (consM (fun ρ => lift (slot ρ 0)) (consM (lstM (consM (fun _ => pure (.str "")) (consM (fun _ => pure (.str "why")) (consM (fun _ => pure (.str "two words")) (fun _ => pure []))))) (fun _ => pure []))))) (seqS (forS (fun ρ => (consM (fnM 1 (F__law_messages c) (consM (fun ρ => lift (slot ρ 3)) (fun _ => pure []))) (fun _ => pure [])) ρ >>= enumI) (gSeqM 2 (gConsM (gSet 7) (gConsM (gSet 8) gNilM))) (bodA c)) (tlA c)))))
def pre__law_right  : Prop := True
def G__law_right  (r : Unit) : Prop := True
noncomputable def F__law_right (c : Cs) : List D → M D := dwel (fun (n : Nat) (a : Unit) => [D.ob n]) (fun ds => den__law_right c (rho0 18 ds) >>= retF) (fun a => pre__law_right ) (fun _ : Unit => D.bl true) (fun a r => G__law_right  r)
theorem ex__law_right (c : Cs) (hk : K00Ok c) {n : Nat}  {S : List MO} (w : W3) (hs : SCl S) (hn : n < S.length) (hp : True) : ∃ (r : Unit) (w' : W3), (True) ∧ F__law_right c [D.ob n] (put S n w) = .ok ((D.bl true)) (put S n w') := by
  refine dwel_ex (es := fun (n : Nat) (a : Unit) => [D.ob n]) (den := fun ds => den__law_right c (rho0 18 ds) >>= retF) (pre := fun a => pre__law_right ) (enc := (fun _ : Unit => D.bl true)) (G := fun a r => G__law_right  r) inj_ob0 ?_ () w hs hn hp
  clear hp hn hs w
  intro n a S w hs hn hp
  obtain ⟨⟩ := a
  have hp : True := hp
  show Ret ((den__law_right c [some (D.ob n), none, none, none, none, none, none, none, none, none, none, none, none, none, none, none, none, none] >>= retF) (put S n w)) fun d' S'' => ∃ (r : Unit) (w' : W3), (True) ∧ Le S.length (.ok ((D.bl true)) (put S n w')) (.ok d' S'')
  have e38 : ∀ S, powDW S (.int 10) (.int 38) = some (.int 100000000000000000000000000000000000000) := fun S => rfl
  have l14 : 14 ≤ sizeLine := by decide
  have l1 : 1 ≤ sizeLine := by decide
  have l0 : 0 ≤ sizeLine := by decide
  have l2 : 2 ≤ sizeLine := by decide
  have l3 : 3 ≤ sizeLine := by decide
  have hr7 : rng1 [.int 7] = pure ((List.range 7).map eN) := rng1_n 7 (by decide)
  have hch := fun (w : W3) => ex__law_choose c (n := n) (D.lst [.int 0, .int 7, .str "a", .str "", .tup [.str "p", .int 1], .non, .int (-1), .int 100000000000000000000000000000000000000, .lst [.int 0], .dk [] [], .bl false, .tup [], .str "no name", .tup [.tup []]]) w hs hn ⟨_, itemsL_l _, by decide, by decide⟩
  have hcw := fun (w : W3) => ex__law_choose c (n := n) (D.lst [.str "", .str "why", .str "two words"]) w hs hn ⟨_, itemsL_l _, by decide, by decide⟩
  simp! [den__law_right, e38, l14, l0, l1, l2, l3, hr7, opd1, negD_i]
  have hrp : ∀ d ∈ ([.int 0, .int 7, .str "a", .str "", .tup [.str "p", .int 1], .non, .int (-1), .int 100000000000000000000000000000000000000, .lst [.int 0], .dk [] [], .bl false, .tup [], .str "no name", .tup [.tup []]] : List D), rp0 d = true := some0_rp
  have hst : ∀ d ∈ ([.str "", .str "why", .str "two words"] : List D), ∃ x : Str, d = .str x := words0_str
  generalize ([.int 0, .int 7, .str "a", .str "", .tup [.str "p", .int 1], .non, .int (-1), .int 100000000000000000000000000000000000000, .lst [.int 0], .dk [] [], .bl false, .tup [], .str "no name", .tup [.tup []]] : List D) = SM at *
  simp only [Ret_then]
  refine compS_inv (fun d : D => d) (fun pre bs S' => (∃ w, S' = put S n w) ∧ bs.length = pre.length ∧ ∀ d ∈ bs, d ∈ SM) (List.range 7) ⟨⟨w, rfl⟩, rfl, fun _ h => nomatch h⟩ ?_ ?_
  · intro pre a post e bs S' h
    obtain ⟨⟨w3, rfl⟩, hl, hb⟩ := h
    obtain ⟨r, w4, ⟨xs, hxs, hr⟩, e4⟩ := hch w3
    rw [itemsL_l] at hxs
    cases hxs
    simp! [e4, Ret_ok]
    refine ⟨some r, rfl, ⟨w4, rfl⟩, by simp [hl], fun d hd => ?_⟩
    rcases List.mem_append.mp hd with h | h
    · exact hb d h
    · simp [Option.toList] at h; subst h; exact hr
  · intro its S' h
    obtain ⟨⟨w3, rfl⟩, hl, hb⟩ := h
    rw [List.length_range] at hl
    have hz7 : its.length ≤ sizeLine := by rw [hl]; decide
    obtain ⟨r, w4, ⟨xs, hxs, hr⟩, e4⟩ := hcw w3
    rw [itemsL_l] at hxs
    cases hxs
    obtain ⟨wd, rfl⟩ := hst r hr
    obtain ⟨z, hz⟩ := rpr0_ok (xs := its) (fun d hd => hrp d (hb d hd)) (by rw [hl]; decide)
    have hm := fun S => ex_messages (c := c) wd S
    have he : enumD ((List.range 9).map fun i => D.xo (cl0 c i) [] []) = (List.range 9).map fun i => D.tup [.int (i : Nat), .xo (cl0 c i) [] []] := rfl
    obtain ⟨i0, i1, i2, i3, i4, i5, i6, rfl⟩ := len7 hl
    simp! [map_id1, hz7, e4, hm, enumI_l, he, Ret_ok]
    simp only [Ret_then]
    refine forM_all (fun i => D.tup [.int (i : Nat), .xo (cl0 c i) [] []]) (List.range 9) (fun pre ρ S' => (∃ b7 b8 b9 : Option D, ρ = [some (D.ob n), some (.lst SM), some (.lst [i0, i1, i2, i3, i4, i5, i6]), some (.str wd), none, none, none, b7, b8, b9, none, none, none, none, none, none, none, none]) ∧ S' = put S n w4) ⟨⟨_, _, _, rfl⟩, rfl⟩ ?_ ?_
    · rintro pre i post e _ _ ⟨⟨b7, b8, b9, rfl⟩, rfl⟩
      have hi : i < 9 := by
        have : i ∈ List.range 9 := by rw [e]; simp
        exact List.mem_range.mp this
      rw [bodA_ok hk hi]
      exact ⟨_, rfl, ⟨_, _, _, rfl⟩, rfl⟩
    · rintro _ _ ⟨⟨b7, b8, b9, rfl⟩, rfl⟩
      simp! [Ret_then]
      refine Ret.mono (tlA_ok hk hz) ?_
      rintro fl S' ⟨rfl, rfl⟩
      exact ⟨(), w4, Le.drop (by rw [put_len]; exact Nat.le_refl _) (by unfold D.cl; rfl) (SCl.put hs _ w4)⟩
theorem le__law_right (c : Cs) (ds : List D) (S : List MO) (hl : ds.length = 1) (hc : D.clAll S.length ds = true) (hf : D.fitAll ds = true) (hs : SCl S) : Le S.length (F__law_right c ds S) ((den__law_right c (rho0 18 ds) >>= retF) S) := dwel_le
noncomputable def den_law (c : Cs) : Rho → M Fl := (seqS (forS (fun ρ => (consM (bltM (consM (fun _ => pure (.int 1)) (consM (bltM (consM (fun _ => pure (.int 8)) (consM (bltM (consM (fun ρ => lift (slot ρ 0)) (fun _ => pure [])) lenDD) (fun _ => pure []))) min2D) (fun _ => pure []))) max2D) (fun _ => pure [])) ρ >>= rng1) (gSet 1) (wipeS [1] (ifS (notT (asT (fnM 1 (F__law_right c) (consM (fnM 2 (F__law_well c) (consM (fun ρ => lift (slot ρ 0)) (consM (fun ρ => lift (slot ρ 1)) (fun _ => pure [])))) (fun _ => pure []))))) (retS (fun _ => pure (.bl false))) skipS))) (retS (fun _ => pure (.bl true))))
theorem spots8 (k : Nat) : ∃ m : Nat, m ≤ 8 ∧ (if (if (k : Int) < 8 then (k : Int) else 8) > 1 then if (k : Int) < 8 then (k : Int) else 8 else 1) = (m : Int) := by
  by_cases h : (k : Int) < 8
  · by_cases h2 : (k : Int) > 1
    · exact ⟨k, by omega, by rw [if_pos h, if_pos h2]⟩
    · exact ⟨1, by omega, by rw [if_pos h, if_neg h2]; rfl⟩
  · exact ⟨8, by omega, by rw [if_neg h]; rfl⟩
noncomputable def F_law (c : Cs) : List D → M D := dmir (fun ns : List Int => [.fl (ns.map D.int)]) (fun ds => den_law c (rho0 2 ds) >>= retF) (fun ns _ => ns.length ≤ 1000) (fun _ S d S' => d = .bl true ∧ S' = S)
theorem le_law (c : Cs) (ds : List D) (S : List MO) (hl : ds.length = 1) (hc : D.clAll S.length ds = true) (hf : D.fitAll ds = true) (hs : SCl S) : Le S.length (F_law c ds S) ((den_law c (rho0 2 ds) >>= retF) S) := dmir_le
theorem ex_law (c : Cs) (hk : K00Ok c) {ns : List Int} {S : List MO} (hs : SCl S) (hn : ns.length ≤ 1000) : F_law c [.fl (ns.map D.int)] S = .ok (.bl true) S := by
  have h := dmir_ret (es := fun ns : List Int => [.fl (ns.map D.int)]) (den := fun ds => den_law c (rho0 2 ds) >>= retF) (pre := fun ns _ => ns.length ≤ 1000) (post := fun _ S d S' => d = .bl true ∧ S' = S) (inj1 inj_fl) ns hs hn ?_
  · obtain ⟨d, S', e, rfl, rfl⟩ := h.eq
    exact e
  have hz : ns.length ≤ sizeLine := Nat.le_trans hn (by decide)
  show Ret ((den_law c [some (.fl (ns.map D.int)), none] >>= retF) S) fun d' S'' => ∃ d S', (d = .bl true ∧ S' = S) ∧ Le S.length (.ok d S') (.ok d' S'')
  obtain ⟨m, hm, em⟩ := spots8 ns.length
  simp! [den_law, lenDD_fl, List.length_map, em, show m ≤ 100000 by omega]
  simp only [Ret_then]
  refine forM_all eN (List.range m) (fun _ ρ S' => ∃ g, ρ = [some (.fl (ns.map D.int)), none] ∧ S' = S ++ g ∧ SCl (S ++ g)) ⟨[], rfl, by simp, by simpa using hs⟩ ?_ ?_
  · rintro pre x post e _ _ ⟨g, rfl, rfl, hsg⟩
    have hx : x < 1000 := by
      have : x ∈ List.range m := by rw [e]; simp
      have := List.mem_range.mp this
      omega
    obtain ⟨w, e1⟩ := ex__law_well c (ns := ns) hsg hx hz
    have hs1 : SCl ((S ++ g) ++ [wl w]) := SCl.app hsg (wl_cl _ w)
    have hn1 : (S ++ g).length < ((S ++ g) ++ [wl w]).length := by simp
    obtain ⟨_, w1, _, e2⟩ := ex__law_right c hk (n := (S ++ g).length) w hs1 hn1 trivial
    rw [wl_app] at e1 e2
    rw [wl_app] at e2
    simp! [gSet, wipeS, eN, e1, e2, wipeFl_nx, Ret_ok]
    exact ⟨_, rfl, g ++ [wl w1], rfl, by rw [List.append_assoc], by rw [← List.append_assoc]; exact SCl.app hsg (wl_cl _ w1)⟩
  · rintro _ _ ⟨g, rfl, rfl, hsg⟩
    simp! [Ret_ok]
    exact ⟨_, _, ⟨rfl, rfl⟩, Le.drop (Nat.le_refl _) (by unfold D.cl; rfl) hs⟩
set_option maxHeartbeats 2000000
end PD
namespace L2
open PySem PySem.Spec PyProof.Rows
end L2
namespace PD
open PySem PySem.Spec PyProof.Rows L2
open PySem.Calls
section
open PySem.SeqAt
open AutoSeq1 (wpAny_loadPart')
open MeetsSeq MeetsSeq2 MeetsSeq3 SeqRoads2
end
end PD
namespace L2
open PySem PySem.Spec PyProof.Rows
end L2
namespace PD
open PySem PySem.Spec PyProof.Rows L2
variable {X : Cx}
open PySem.Calls
section
variable {prog : Program} {wd : World} {A : Around} {E : Value → Shared → Prop} {s : Shared} {K : PySem.W.Frag} {x C f : Addr} {ox : Obj} {od : Option Obj} {T : String}
/-- what the class at C and the built-in type T say of + -/
structure AddT (K : PySem.W.Frag) (C : Addr) (T : String) : Prop where
  fo : ∃ a, PySem.W.findIn K (.type T) "__add__" = some a
  ro : ∃ a, PySem.W.findIn K (.type T) "__radd__" = some a
  sub : PySem.W.subIn K (.type T) (.ref C) = some false
structure OwnA (K : PySem.W.Frag) (C f : Addr) : Prop where
  self : PySem.W.selfFirst K C = true
  hs : PySem.W.findIn K (.ref C) "__add__" = some (some (.ref f))
  hf : PySem.W.isFn K (.ref f) = true
  hr : PySem.W.findIn K (.ref C) "__radd__" = some none
  ty : ∀ T ∈ seven, AddT K C T
end
/-- a def with keyword-only defaults -/
theorem SaysP.funD {B : Frag → Bool} {fn : List He5.DefA} {K : Frag} (z : SaysP B fn K) (i : Nat) {d : He5.DefA} {x qual : Str} {st : Stmt} {kw : List (Str × He.Dv)} (h : fn[i]? = some d) (e : d = ⟨d.at_, x, qual, defArgs st, defBody st, defScope st, [], kw⟩) : ∃ fd, Fun K x qual st (d.at_ K) fd ∧ FunD K x qual (defArgs st) (defBody st) (defScope st) [] (d.kws K) (d.at_ K) fd := by
  have h1 : (B K && fn.all fun d => d.ok K) = true := congrArg (fun y : AlP => y.1) z
  rw [Bool.and_eq_true, List.all_eq_true] at h1
  have h2 : fn.map (fun d => He5.fnA K (d.at_ K)) = fn.map He5.DefA.val := congrArg (fun y : AlP => y.2) z
  have h3 := congrArg (fun l => l[i]?) h2
  simp only [List.getElem?_map, h, Option.map_some] at h3
  obtain ⟨fd, F⟩ := He5.DefA.funD (Option.some.inj h3) (h1.2 d (List.mem_of_getElem? h))
  obtain ⟨at_, nm, ql, pr, bd, sc, df, kd⟩ := d
  simp only [He5.DefA.mk.injEq, true_and] at e
  obtain ⟨rfl, rfl, rfl, rfl, rfl, rfl, rfl⟩ := e
  exact ⟨fd, He5.fun_of F, F⟩
set_option maxHeartbeats 4000000
open AutoSeq1 (wpAny_loadPart')
open RZ
open Sem (wp)
section
variable {prog : Program} {wd : World} {A : Around} {E : Value → Shared → Prop} {s : Shared}
variable {z TI TO T p q a b : Addr} {f : Bool} {oT : Obj} {i j : Nat} {us vs : Array Value} {u v : Value}
/-- the next pair of a zip whose last tuple is still out -/
theorem zH_item {Q : Value → Shared → Prop} (D : ZipApart z TI TO p q a b) (hz : IsZipHeld s.heap z TI TO T f) (hT : s.heap.get? T = some oT) (hI : IsPair s.heap TI (.ref p) (.ref q))
    (g1 : s.heap.IsTupleIter p a i) (g2 : s.heap.IsTupleIter q b j) (t1 : s.heap.IsTuple a us) (t2 : s.heap.IsTuple b vs) (e1 : us[i]? = some u) (e2 : vs[j]? = some v)
    (hQ : ∀ h', IsZipHeld h' z TI TO T true → h'.IsTupleIter p a (i + 1) → h'.IsTupleIter q b (j + 1) → IsPair h' s.heap.objs.size u v → h'.objs.size = s.heap.objs.size + 1 →
      (∀ c o, c ≠ z → c ≠ p → c ≠ q → s.heap.get? c = some o → h'.get? c = some o) → Q (.ref s.heap.objs.size) { s with heap := h' }) :
    wpAny (model prog wd) A (Builtin.«zip.__next__» ⟨[.ref z], []⟩) (fun fin s' => ∃ r, fin = .done (.ret r) ∧ Q r s') E s := by
  show wpAny _ _ (field (.ref z) 2 >>= _) _ E _
  refine wpAny_bind (wpAny_field hz rfl (x := Value.bool false) rfl ?_)
  show wpAny _ _ (field (.ref z) 3 >>= _) _ E _
  refine wpAny_bind (wpAny_field hz rfl (x := Value.ref TI) rfl ?_)
  refine wpAny_bind (wpAny_seqItems hI rfl ?_)
  show wpAny _ _ (Builtin.SmallTypes.ownedTupleIsFree (.ref z) >>= _) _ E _
  refine wpAny_bind (wpAny_tupleHeld_zip hz hT fun k1 z1 b1 => ?_)
  simp only [Bool.false_eq_true, if_false]
  refine wpAny_bind ?_
  rw [← Array.forIn_toList]
  simp only [List.forIn_cons, List.forIn_nil]
  refine wpAny_bind (wpAny_bind (wpAny_holding ?_))
  show wpAny _ _ (Builtin.SmallTypes.nextOf (.ref p) >>= _) _ E _
  refine wpAny_bind (nextOf_tuple_item (s := { s with heap := k1 }) (g1.extBut b1.extBut D.i1z) (t1.extBut b1.extBut D.l1z) e1 fun k2 w1 b2 => wpAny_pure ?_)
  refine wpAny_pure ?_
  refine wpAny_bind (wpAny_bind (wpAny_holding ?_))
  show wpAny _ _ (Builtin.SmallTypes.nextOf (.ref q) >>= _) _ E _
  refine wpAny_bind (nextOf_tuple_item (s := { s with heap := k2 }) ((g2.extBut b1.extBut D.i2z).extBut b2.extBut D.i12.symm) ((t2.extBut b1.extBut D.l2z).extBut b2.extBut D.l2i1) e2 fun k3 w2 b3 => wpAny_pure ?_)
  refine wpAny_pure (wpAny_pure ?_)
  show wpAny _ _ (newTuple [u, v] >>= _) _ E _
  refine wpAny_bind (wpAny_newTuple ?_)
  have sz : k3.objs.size = s.heap.objs.size := by rw [b3.1, b2.1, b1.1]
  have z3 : IsZipHeld k3 z TI TO T true := b3.extBut _ _ D.i2z.symm (b2.extBut _ _ D.i1z.symm z1)
  have kp : ∀ c o, c ≠ z → c ≠ p → c ≠ q → s.heap.get? c = some o → k3.get? c = some o := fun c o n1 n2 n3 e => b3.extBut _ _ n3 (b2.extBut _ _ n2 (b1.extBut _ _ n1 e))
  have w3 : k3.IsTupleIter p a (i + 1) := w1.extBut b3.extBut D.i12
  refine wpAny_pure ⟨_, rfl, ?_⟩
  show Q (.ref k3.objs.size) _
  have hp : IsPair (k3.push { cls := .type "tuple", data := .seq #[u, v] }) k3.objs.size u v := Heap.get?_push_size _ rfl
  have s4 : (k3.push { cls := .type "tuple", data := .seq #[u, v] }).objs.size = k3.objs.size + 1 := Heap.size_push ..
  rw [sz] at hp s4 ⊢
  exact hQ _ (Heap.get?_push_of_some _ z3) (w3.at fun o e => Heap.get?_push_of_some _ e) (w2.at fun o e => Heap.get?_push_of_some _ e) hp s4 fun c o n1 n2 n3 e => Heap.get?_push_of_some _ (kp c o n1 n2 n3 e)
theorem zH_end {Q : Fin → Shared → Prop} (hh : A.handled = none) (D : ZipApart z TI TO p q a b) (hz : IsZipHeld s.heap z TI TO T f) (hT : s.heap.get? T = some oT) (hI : IsPair s.heap TI (.ref p) (.ref q))
    (g1 : s.heap.IsTupleIter p a i) (g2 : s.heap.IsTupleIter q b j) (t1 : s.heap.IsTuple a us) (t2 : s.heap.IsTuple b vs) (he : us[i]? = none ∨ vs[j]? = none)
    (hE : ∀ h' e, (∀ c o, c ≠ z → c ≠ p → c ≠ q → s.heap.get? c = some o → h'.get? c = some o) → (∃ o, h'.get? e = some o ∧ o.cls = .type "StopIteration") → E (.ref e) { s with heap := h' }) :
    wpAny (model prog wd) A (Builtin.«zip.__next__» ⟨[.ref z], []⟩) Q E s := by
  show wpAny _ _ (field (.ref z) 2 >>= _) _ E _
  refine wpAny_bind (wpAny_field hz rfl (x := Value.bool false) rfl ?_)
  show wpAny _ _ (field (.ref z) 3 >>= _) _ E _
  refine wpAny_bind (wpAny_field hz rfl (x := Value.ref TI) rfl ?_)
  refine wpAny_bind (wpAny_seqItems hI rfl ?_)
  show wpAny _ _ (Builtin.SmallTypes.ownedTupleIsFree (.ref z) >>= _) _ E _
  refine wpAny_bind (wpAny_tupleHeld_zip hz hT fun k1 z1 b1 => ?_)
  simp only [Bool.false_eq_true, if_false]
  refine wpAny_bind ?_
  rw [← Array.forIn_toList]
  simp only [List.forIn_cons, List.forIn_nil]
  refine wpAny_bind (wpAny_bind (wpAny_holding ?_))
  show wpAny _ _ (Builtin.SmallTypes.nextOf (.ref p) >>= _) _ E _
  cases e1 : us[i]? with
  | none =>
    refine wpAny_bind (nextOf_tuple_end (s := { s with heap := k1 }) hh (g1.extBut b1.extBut D.i1z) (t1.extBut b1.extBut D.l1z) e1 fun k2 e b2 he2 => ?_)
    exact hE k2 e (fun c o n1 n2 _ x => b2 _ _ n2 (b1.extBut _ _ n1 x)) he2
  | some x =>
    have e2 : vs[j]? = none := by rcases he with h | h; rw [e1] at h; cases h; exact h
    refine wpAny_bind (nextOf_tuple_item (s := { s with heap := k1 }) (g1.extBut b1.extBut D.i1z) (t1.extBut b1.extBut D.l1z) e1 fun k2 w1 b2 => wpAny_pure ?_)
    refine wpAny_pure ?_
    refine wpAny_bind (wpAny_bind (wpAny_holding ?_))
    show wpAny _ _ (Builtin.SmallTypes.nextOf (.ref q) >>= _) _ E _
    refine wpAny_bind (nextOf_tuple_end (s := { s with heap := k2 }) hh ((g2.extBut b1.extBut D.i2z).extBut b2.extBut D.i12.symm) ((t2.extBut b1.extBut D.l2z).extBut b2.extBut D.l2i1) e2 fun k3 e b3 he2 => ?_)
    exact hE k3 e (fun c o n1 n2 n3 x => b3 _ _ n3 (b2.extBut _ _ n2 (b1.extBut _ _ n1 x))) he2
theorem zH_nextItem {Q : Option Value → Shared → Prop} (D : ZipApart z TI TO p q a b) (hz : IsZipHeld s.heap z TI TO T f) (hT : s.heap.get? T = some oT) (hI : IsPair s.heap TI (.ref p) (.ref q))
    (g1 : s.heap.IsTupleIter p a i) (g2 : s.heap.IsTupleIter q b j) (t1 : s.heap.IsTuple a us) (t2 : s.heap.IsTuple b vs) (e1 : us[i]? = some u) (e2 : vs[j]? = some v)
    (hQ : ∀ h', IsZipHeld h' z TI TO T true → h'.IsTupleIter p a (i + 1) → h'.IsTupleIter q b (j + 1) → IsPair h' s.heap.objs.size u v → h'.objs.size = s.heap.objs.size + 1 →
      (∀ c o, c ≠ z → c ≠ p → c ≠ q → s.heap.get? c = some o → h'.get? c = some o) → Q (some (.ref s.heap.objs.size)) { s with heap := h' }) :
    wpAny (model prog wd) A (pyNext (.ref z)) Q E s := by
  have ty : s.TypeIs (.ref z) "zip" := ⟨_, hz, rfl⟩
  unfold pyNext
  exact wpAny_bind (wpAny_attempt (wpAny_callSpecial?_slot (name := Str.ofString "__next__") ty F.slot_zip_next
    (wpAny_call_entry F.slot_zip_next ty F.entry_zip_next (zH_item D hz hT hI g1 g2 t1 t2 e1 e2 fun h' r1 r2 r3 r4 r5 r6 => wpAny_pure (hQ h' r1 r2 r3 r4 r5 r6)) (F.args_zip_next_1 _))))
theorem zH_nextEnd {Q : Option Value → Shared → Prop} (hh : A.handled = none) (D : ZipApart z TI TO p q a b) (hz : IsZipHeld s.heap z TI TO T f) (hT : s.heap.get? T = some oT) (hI : IsPair s.heap TI (.ref p) (.ref q))
    (g1 : s.heap.IsTupleIter p a i) (g2 : s.heap.IsTupleIter q b j) (t1 : s.heap.IsTuple a us) (t2 : s.heap.IsTuple b vs) (he : us[i]? = none ∨ vs[j]? = none)
    (hQ : ∀ h', (∀ c o, c ≠ z → c ≠ p → c ≠ q → s.heap.get? c = some o → h'.get? c = some o) → Q none { s with heap := h' }) : wpAny (model prog wd) A (pyNext (.ref z)) Q E s := by
  have ty : s.TypeIs (.ref z) "zip" := ⟨_, hz, rfl⟩
  unfold pyNext
  refine wpAny_bind (wpAny_attempt (wpAny_callSpecial?_slot (name := Str.ofString "__next__") ty F.slot_zip_next
    (wpAny_call_entry F.slot_zip_next ty F.entry_zip_next (zH_end hh D hz hT hI g1 g2 t1 t2 he fun h' e kp he2 => ?_) (F.args_zip_next_1 _))))
  obtain ⟨o, ho, hc⟩ := he2
  refine wpAny_bind (wpAny_isInstance (T := "StopIteration") (b := true) ⟨o, ho, hc⟩ isSubtype_stop ?_)
  exact wpAny_pure (hQ _ kp)
end
/-- a zip of two tuples at pair i; S is the list that is filled -/
structure ZSt (h : Heap) (z TI TO p q a b S : Addr) (us vs : Array Value) (i : Nat) : Prop where
  ap : ZipApart z TI TO p q a b
  st : (IsZip h z TI TO .none ∧ ∃ x y, IsPair h TO x y) ∨ ∃ (T : Addr) (f : Bool) (oT : Obj), IsZipHeld h z TI TO T f ∧ h.get? T = some oT ∧ T ≠ S
  ti : IsPair h TI (.ref p) (.ref q)
  g1 : h.IsTupleIter p a i
  g2 : h.IsTupleIter q b i
  t1 : h.IsTuple a us
  t2 : h.IsTuple b vs
  eTO : ∃ o, h.get? TO = some o
  nS : S ≠ z ∧ S ≠ TI ∧ S ≠ TO ∧ S ≠ p ∧ S ≠ q ∧ S ≠ a ∧ S ≠ b
section
variable {prog : Program} {wd : World} {A : Around} {E : Value → Shared → Prop} {s : Shared}
variable {z TI TO p q a b S : Addr} {us vs : Array Value} {i : Nat} {u v : Value} {h h' : Heap}
theorem ZSt.frame (Z : ZSt h z TI TO p q a b S us vs i) (k : ∀ c o, c ≠ S → h.get? c = some o → h'.get? c = some o) : ZSt h' z TI TO p q a b S us vs i := by
  obtain ⟨ap, st, ti, g1, g2, t1, t2, eTO, n1, n2, n3, n4, n5, n6, n7⟩ := Z
  refine ⟨ap, ?_, k _ _ (Ne.symm n2) ti, g1.at fun o e => k _ _ (Ne.symm n4) e, g2.at fun o e => k _ _ (Ne.symm n5) e, ?_, ?_, ⟨_, k _ _ (Ne.symm n3) eTO.choose_spec⟩, n1, n2, n3, n4, n5, n6, n7⟩
  · rcases st with ⟨e, x, y, e2⟩ | ⟨T, f, oT, e, e2, nT⟩
    · exact .inl ⟨k _ _ (Ne.symm n1) e, x, y, k _ _ (Ne.symm n3) e2⟩
    · exact .inr ⟨T, f, oT, k _ _ (Ne.symm n1) e, k _ _ nT e2, nT⟩
  · obtain ⟨o, e, r⟩ := t1; exact ⟨o, k _ _ (Ne.symm n6) e, r⟩
  · obtain ⟨o, e, r⟩ := t2; exact ⟨o, k _ _ (Ne.symm n7) e, r⟩
theorem ZSt.item {Q : Option Value → Shared → Prop} (Z : ZSt s.heap z TI TO p q a b S us vs i) (hS : S < s.heap.objs.size) (e1 : us[i]? = some u) (e2 : vs[i]? = some v)
    (hQ : ∀ h', ZSt h' z TI TO p q a b S us vs (i + 1) → IsPair h' s.heap.objs.size u v → h'.objs.size = s.heap.objs.size + 1 →
      (∀ c o, c ≠ z → c ≠ TO → c ≠ p → c ≠ q → s.heap.get? c = some o → h'.get? c = some o) → Q (some (.ref s.heap.objs.size)) { s with heap := h' }) : wpAny (model prog wd) A (pyNext (.ref z)) Q E s := by
  obtain ⟨D, st, ti, g1, g2, t1, t2, eTO, nS⟩ := Z
  have tk : ∀ {h2 : Heap} {c : Addr} {xs : Array Value}, s.heap.IsTuple c xs → (∀ o, s.heap.get? c = some o → h2.get? c = some o) → h2.IsTuple c xs := fun ⟨o, e, r⟩ k => ⟨o, k o e, r⟩
  rcases st with ⟨z1, x, y, z2⟩ | ⟨T, f, oT, z1, z2, nT⟩
  · refine pyNext_zipT_item D z1 ti z2 g1 g2 t1 t2 e1 e2 fun h' r1 r2 r3 r4 r5 r6 r7 => ?_
    have keep := r7
    refine hQ h' ⟨D, .inr ⟨s.heap.objs.size, false, _, r1, r5, Nat.ne_of_gt hS⟩, r7 _ _ D.TIz D.TITO D.TIi1 D.TIi2 ti, r3, r4, tk t1 fun o e => r7 _ _ D.l1z D.l1TO D.l1i1 D.l1i2 e, tk t2 fun o e => r7 _ _ D.l2z D.l2TO D.l2i1 D.l2i2 e, ⟨_, r2⟩, nS⟩ r5 r6 r7
  · refine zH_nextItem D z1 z2 ti g1 g2 t1 t2 e1 e2 fun h' r1 r3 r4 r5 r6 r7 => ?_
    have r8 : ∀ c o, c ≠ z → c ≠ TO → c ≠ p → c ≠ q → s.heap.get? c = some o → h'.get? c = some o := fun c o n1 _ n3 n4 e => r7 c o n1 n3 n4 e
    obtain ⟨oT2, hT2⟩ : ∃ o, h'.get? T = some o := by
      by_cases n1 : T = z
      · exact ⟨_, by rw [n1]; exact r1⟩
      · by_cases n2 : T = p
        · obtain ⟨o, e, _⟩ := r3; exact ⟨o, by rw [n2]; exact e⟩
        · by_cases n3 : T = q
          · obtain ⟨o, e, _⟩ := r4; exact ⟨o, by rw [n3]; exact e⟩
          · exact ⟨_, r7 T _ n1 n2 n3 z2⟩
    exact hQ h' ⟨D, .inr ⟨T, true, oT2, r1, hT2, nT⟩, r7 _ _ D.TIz D.TIi1 D.TIi2 ti, r3, r4, tk t1 fun o e => r7 _ _ D.l1z D.l1i1 D.l1i2 e, tk t2 fun o e => r7 _ _ D.l2z D.l2i1 D.l2i2 e, ⟨_, r7 _ _ D.TOz D.TOi1 D.TOi2 eTO.choose_spec⟩, nS⟩ r5 r6 r8
theorem ZSt.fin {Q : Option Value → Shared → Prop} (hh : A.handled = none) (Z : ZSt s.heap z TI TO p q a b S us vs i) (he : us[i]? = none ∨ vs[i]? = none)
    (hQ : ∀ h', (∀ c o, c ≠ z → c ≠ TO → c ≠ p → c ≠ q → s.heap.get? c = some o → h'.get? c = some o) → Q none { s with heap := h' }) : wpAny (model prog wd) A (pyNext (.ref z)) Q E s := by
  obtain ⟨D, st, ti, g1, g2, t1, t2, eTO, nS⟩ := Z
  rcases st with ⟨z1, x, y, z2⟩ | ⟨T, f, oT, z1, z2, nT⟩
  · exact pyNext_zipT_end hh D z1 ti z2 g1 g2 t1 t2 he hQ
  · exact zH_nextEnd hh D z1 z2 ti g1 g2 t1 t2 he fun h' k => hQ h' fun c o n1 _ n3 n4 e => k c o n1 n3 n4 e
end
end PD
namespace L2
open PySem PySem.Spec PyProof.Rows PD RZ
section
variable {X : Cx} {e e2 : Expr} {ta : TA} {p pos p2 pos2 : Pos}
theorem Vals.at {xs : List V} {us : List Value} (r : Vals xs us) {j : Nat} {x : V} (e : xs[j]? = some x) : ∃ u, us[j]? = some u ∧ RelV x u := by
  obtain ⟨u, h1, h2⟩ := Vals.get r e
  exact ⟨u, h1, h2⟩
end
end L2
namespace PD
open PySem PySem.Spec PyProof.Rows L2
set_option maxHeartbeats 2000000
open ClX
open PySem.Calls StX
structure XSup2 (K : Frag) (C D f2 : Addr) : Prop where
  sub : PySem.W.mroIn K C (.ref D) = some true
  sup : PySem.W.ks_superIn K C D "__init__" = some (some (.ref f2))
  ty : PySem.W.typeIn K (.ref f2) = some (.type "function")
  fn : PySem.W.fnIn K f2 = true
  sf : PySem.W.nsIn K mainGlobals "super" = some none
  op : PySem.W.nsIn K cStatics "thirdparty.any" = some none
section
variable {P : Program} {w : World} {A : Around} {R : Result → Shared → Prop} {s : Shared} {K : Frag} {mg : Str → Option Value} {base : Heap} {C D fI f2 e t0 : Addr} {qual p f : Str} {st : Stmt} {B i newId : String} {bt : List Value}
/-- super().__init__(p), the own __init__ of the base class -/
theorem xs_superO {Q : Flow → Shared → Prop} {E : Value → Shared → Prop} {body : List Stmt} {cda cc L : Addr} {v : Value} {ccl cl : Value} {cdd cld od : Option Addr} {vs : Array Value} {ccs csl osl : Array (Option Value)} {tf : Tok} {oc : Value} {fd : FuncData} {p0 p1 p2 p3 p4 p5 : Pos}
    (M : Mod K mg base) (bk : ∀ b o, base.get? b = some o → s.heap.get? b = some o) (T : XTxt P qual p st) (Z : XSup2 K C D f2) (hr : A.depth < recursionLimit) (run : ∀ (s2 : Shared) (u : Value) (A2 : Around) (R2 : Result → Shared → Prop), A2.depth < recursionLimit → (∀ b o, base.get? b = some o → s2.heap.get? b = some o) → s2.heap.get? e = some (xO C t0 none) → (∀ h' t1 tk, (∀ b o, b ≠ e → s2.heap.get? b = some o → h'.get? b = some o) → h'.get? e = some (xO C t1 none) → R2 (.ok (.ret .none)) { s2 with heap := h', toks := tk }) → codeAny (model P w) A2 (.call (.ref f2) ⟨[.ref e, u], []⟩) R2 s2)
    (hfd : fd.params = defArgs st) (l1 : K.lookup fI = some ⟨oc, od, .func fd, osl⟩) (l2 : K.lookup cda = some ⟨ccl, cdd, .fields vs, ccs⟩) (l3 : vs[2]? = some (.str P.main.file tf)) (l4 : K.lookup cc = some ⟨cl, cld, .cell (some (.ref D)), csl⟩) (l5 : ∃ cd, PySem.W.clsIn K D = some cd)
    (hn : s.heap.Ns L fun y => [(("self" : Str), Value.ref e), (p, v)].reverse.lookup y) (he : s.heap.get? e = some (xO C t0 none)) (hL : L ≠ e) (hcl : Cl1 p p0 p1 p2 p3 p4) (he0 : base.get? e = none)
    (hq : ∀ h' t1 tk, (∀ b o, b ≠ e → s.heap.get? b = some o → h'.get? b = some o) → h'.get? e = some (xO C t1 none) → Q .next { s with heap := h', toks := tk }) :
    _root_.PySem.wpAt (model P w) A (.func body (PySem.W.ksEnv qual (defScope st) L fI (.ref cda) cc)) (exec (.Expr (.Call (.Attribute (.Call (.Name "super" p0) [] [] p1) "__init__" p2) [.Name p p3] [] p4) p5) (PySem.W.ksEnv qual (defScope st) L fI (.ref cda) cc)) Q E s := by
  have X : K.In s.heap := M.kin.keeps bk
  obtain ⟨mb, hb1, hb2⟩ := M.blt
  obtain ⟨cdD, hD⟩ := l5
  obtain ⟨oD, hD1, hD2⟩ : ∃ oD, s.heap.get? D = some oD ∧ oD.data = .cls cdD := by
    unfold PySem.W.clsIn at hD
    split at hD
    · rename_i c d cd' sl ho
      cases hD
      exact ⟨_, X _ _ ho, rfl⟩
    · cases hD
  have self_ : ([(("self" : Str), Value.ref e), (p, v)].reverse.lookup ("self" : Str)) = some (Value.ref e) := by
    show (([(p, v), (("self" : Str), Value.ref e)] : List (Str × Value)).lookup ("self" : Str)) = _
    simp [List.lookup, T.ne]
  have par_ : ([(("self" : Str), Value.ref e), (p, v)].reverse.lookup p) = some v := by
    show (([(p, v), (("self" : Str), Value.ref e)] : List (Str × Value)).lookup p) = _
    simp [List.lookup]
  have I : PySem.W.InstAt s.heap e (xO C t0 none) C none := ⟨he, rfl, rfl, trivial⟩
  obtain ⟨ar, har, harg⟩ := T.head
  obtain ⟨pl, hcall⟩ := hcl (PySem.W.ksEnv qual (defScope st) L fI (.ref cda) cc)
  refine PySem.ks_wpAt_Expr_any (PySem.ks_wpAt_MethodCall (pl := pl) ?main hcall) ?hi ?hs
  case hi => simp [interactive, T.kind]
  case hs => rfl
  · refine PySem.ks_wpAt_super_base (env := PySem.W.ksEnv qual (defScope st) L fI (.ref cda) cc) T.ks T.kc (by decide) rfl (X _ _ l1) rfl (by rw [hfd]; exact har) rfl (X _ _ l2) rfl l3 (by simp) T.top ?_
    refine PySem.W.ks_loadName_global T.kind T.ks (loadGlobal_builtin (env := PySem.W.ksEnv qual (defScope st) L fI (.ref cda) cc) (M.glob.keeps bk) (PySem.W.mg_none_of M.kin M.glob Z.sf) (hb1.keeps bk) ((hb2 _ (by decide +kernel)).trans (by decide +kernel)) ⟨rfl, ?_⟩)
    refine wpAny_loadName_free T.kind T.kc rfl ⟨_, X _ _ l4, rfl⟩ ?_
    rw [harg]
    refine wpAny_loadName_local T.kind T.ka hn self_ ?_
    obtain ⟨hh, g, d, t, os⟩ := s
    refine PySem.ks_wpAny_isType_cls hD1 hD2 ⟨rfl, ?_⟩
    refine PySem.ks_wpAny_call_super hD1 hD2 he rfl (fun c z => nomatch z) (PySem.W.looks_mroIn X Z.sub) fun h1 eso k1' => ?_
    have X1 : K.In h1 := X.keeps k1'
    have I1 : PySem.W.InstAt h1 e (xO C t0 none) C none := ⟨k1' _ _ he, rfl, rfl, trivial⟩
    have hs := Z.sup
    cases hc : PySem.W.clsIn K C with
    | none => unfold PySem.W.ks_superIn at hs; rw [hc] at hs; cases hs
    | some cd =>
      unfold PySem.W.ks_superIn at hs
      rw [hc] at hs
      obtain ⟨of, hof, hofc⟩ : ∃ of, h1.get? f2 = some of ∧ of.cls = .type "function" := by
        have q : (K.lookup f2).map (·.cls) = some (.type "function") := Z.ty
        cases z : K.lookup f2 with
        | none => rw [z] at q; cases q
        | some of => rw [z] at q; exact ⟨of, X1 _ _ z, Option.some.inj q⟩
      refine PySem.ks_wpAny_getMethod_super eso (PySem.W.looks_opaque X1 Z.op) (l₀ := cd.mro) ?_ rfl X1 hs hof hofc (PySem.W.ks_ne X1 I1 hc) (by decide) ?_
      · exact fun A Q E s k q => wpAny_bind ((PySem.W.looks_clsIn X1 hc) A _ E s k (wpAny_pure q))
      · have kk : ∀ b o, hh.get? b = some o → (h1.push (PySem.W.methodObj (.ref f2) (.ref e))).get? b = some o := fun b o z => Heap.get?_push_of_some _ (k1' b o z)
        have hu : (h1.push (PySem.W.methodObj (.ref f2) (.ref e))).get? h1.objs.size = some (PySem.W.methodObj (.ref f2) (.ref e)) := Heap.get?_push_size h1 rfl
        refine PySem.W.callWith_of (P := PySem.W.MethP K h1.objs.size f2 (.ref e)) (by rfl) (PySem.W.keeps_M Z.fn) ?_
        refine evalArgs_plain ?_
        refine Calls.spliced_cons (PySem.ESX.ldL (hn.keeps kk) par_ ?_ T.kind T.kp T.dbg)
        refine Calls.spliced_nil ⟨⟨hu, X1.keeps fun b o z => Heap.get?_push_of_some _ z⟩, ?_⟩
        refine wpAny_call (PySem.W.method_call hu ?_)
        refine run _ v _ _ hr (fun b o z => kk b o (bk b o z)) (kk _ _ he) fun h' t1 tk k' e' => hq h' t1 _ (fun b o hb z => k' b o hb (kk b o z)) e'
theorem xs_run3 {v : Value} (M : Mod K mg base) (bk : ∀ b o, base.get? b = some o → s.heap.get? b = some o) (DX : XDef P K D fI qual st) (T : XTxt P qual p st) {D2 : Addr} {qual2 p2 : Str} {st2 : Stmt} (Z : XSup2 K C D f2) (DX2 : XDef P K D2 f2 qual2 st2) (T2 : XTxt P qual2 p2 st2) (Z2 : XSup K C D2 B i newId bt) (hb2 : Body1 p2 (defBody st2)) (F : IniF B i bt) (Y : XFld K C f bt) (hb : Body2 p f (defBody st)) (be : base.get? e = none) (hr : A.depth < recursionLimit) (hr2 : ∀ env : Env, (A.deeper env).depth < recursionLimit)
    (he : s.heap.get? e = some (xO C t0 none)) (hq : ∀ h' t1 tk dx, (∀ b o, b ≠ e → s.heap.get? b = some o → h'.get? b = some o) → s.heap.objs.size ≤ dx → dx ≠ e → h'.get? e = some (xO C t1 (some dx)) → h'.Ns1 dx (fun y => if y = f then some v else none) → R (.ok (.ret .none)) { s with heap := h', toks := tk }) :
    codeAny (model P w) A (.call (.ref fI) ⟨[.ref e, v], []⟩) R s := by
  obtain ⟨oc, od, kV, doc, pm, an, ct, osl, cda, cc, ccl, cdd, vs, ccs, tf, cl, cld, csl, l1, lc, l2, l3, l4⟩ := DX.ex
  obtain ⟨p0, p1, p2, p3, p4, p5, q0, q1, q2, q3, eb, hcl⟩ := hb
  have X : K.In s.heap := M.kin.keeps bk
  refine ks_codeAny_call_defAt (body := defBody st) (binds := [(("self" : Str), Value.ref e), (p, v)]) hr (X _ _ l1) rfl (M.nolimit.keeps bk) (PySem.W.codeRec_of X lc) rfl (.of_eq (T.bind _ _ _ _ _ _ _ _ _)) T.noc ?_ (fun h1 hn kk => ?_) T.co T.gen T.kind
  · intro y hy
    rcases List.mem_cons.mp hy with rfl | hy
    · exact T.ka
    · rcases List.mem_cons.mp hy with rfl | hy
      · exact T.kp
      · exact nomatch hy
  · have hL : s.heap.objs.size ≠ e := Nat.ne_of_gt (Heap.lt_size he)
    have aux : ∀ {bd : List Stmt}, bd = defBody st → _root_.PySem.wpAt (model P w) (A.deeper (callEnv (PySem.W.ksFn "__init__" qual (defArgs st) (defBody st) (defScope st) .none kV doc pm an (.ref cda) ct cc) s.heap.objs.size fI)) (.func (defBody st) (callEnv (PySem.W.ksFn "__init__" qual (defArgs st) (defBody st) (defScope st) .none kV doc pm an (.ref cda) ct cc) s.heap.objs.size fI)) (execs bd (PySem.W.ksEnv qual (defScope st) s.heap.objs.size fI (.ref cda) cc))
        (fun f s' => R (.ok (.ret (match f with | .ret v => v | _ => .none))) s') (fun e s' => wpAny (model P w) (A.deeper (callEnv (PySem.W.ksFn "__init__" qual (defArgs st) (defBody st) (defScope st) .none kV doc pm an (.ref cda) ct cc) s.heap.objs.size fI)) (leaving (callEnv (PySem.W.ksFn "__init__" qual (defArgs st) (defBody st) (defScope st) .none kV doc pm an (.ref cda) ct cc) s.heap.objs.size fI) e) (fun _ s'' => R (.error e) s'') (fun e' s'' => R (.error e') s'') s')
        { s with heap := h1, toks := s.toks + [(("self" : Str), Value.ref e), (p, v)].length } := fun {bd} z => by
      rw [z, eb]
      refine ks_wpAt_execs_cons ?_
      refine xs_superO (t0 := t0) M (fun b o z => kk b o (bk b o z)) T Z (hr2 _) (fun s2 u A2 R2 d2 b2 e2 q2 => xs_run1 M b2 DX2 T2 Z2 F hb2 d2 e2 q2) rfl l1 l2 l3 l4 DX.cls hn (kk _ _ he) hL hcl be fun h' t1 tk k' e' => ?_
      have k2 : ∀ b o, b ≠ e → s.heap.get? b = some o → h'.get? b = some o := fun b o hb z => k' b o hb (kk b o z)
      have X' : K.In h' := M.kin.keeps fun b o z => k2 b o (fun y => by rw [y, be] at z; cases z) (bk b o z)
      have hn' : h'.Ns s.heap.objs.size fun y => [(("self" : Str), Value.ref e), (p, v)].reverse.lookup y := by
        obtain ⟨oL, es, ep, ho, r⟩ := hn
        exact ⟨oL, es, ep, k' _ _ hL ho, r⟩
      refine ks_wpAt_execs_cons (ks_wpAt_Assign_Attr ?_)
      refine _root_.PySem.wpAt_of_wpAny (PySem.ESX.ldL hn' pair_par ?_ T.kind T.kp T.dbg)
      refine PySem.ESX.ldL hn' (pair_self T) ?_ T.kind T.ka (by decide)
      refine PySem.W.set_plain (od := none) X' ⟨e', rfl, rfl, trivial⟩ Y.sa ?_
      refine xn_store F X' e' Y.ov Y.hd Y.no fun h2 tk2 dx k3 ds dn e2 n2 => ?_
      refine _root_.PySem.wpAt_of_wpAny (wpAny_execs_nil ?_)
      have sz : s.heap.objs.size ≤ dx := Nat.le_of_lt (Nat.lt_of_lt_of_le (Heap.lt_size (k' _ _ hL hn.choose_spec.choose_spec.choose_spec.1)) ds)
      exact hq h2 t1 tk2 dx (fun b o hb z => k3 b o hb (k2 b o hb z)) sz dn e2 n2
    exact aux rfl
end
/-- what the making of an instance of C wants -/
structure XMk (K : Frag) (C fI : Addr) (newId : String) (bt : List Value) : Prop where
  init : PySem.W.findIn K (.ref C) "__init__" = some (some (.ref fI))
  ty : PySem.W.typeIn K (.ref fI) = some (.type "function")
  ei : PySem.W.excInitIn K C bt newId = true
  subE : PySem.W.subIn K (.ref C) (.type "BaseException") = some true
  tyC : PySem.W.typeIn K (.ref C) = some (.type "type")
  kC : PySem.W.keepIn K (.ref C) = true
/-- an exception class x at C that keeps its argument in f; its base has an own __init__ -/
def Exc3 (P : Program) (K : Frag) (mg : Str → Option Value) (x : Str) (C : Addr) (f : Str) : Prop := ∃ (D fI f2 D2 : Addr) (qual p qual2 p2 : Str) (st st2 : Stmt) (B Bn i newId : String) (bt : List Value),
  XDef P K D fI qual st ∧ XTxt P qual p st ∧ XMk K C fI newId bt ∧ XSup2 K C D f2 ∧ XDef P K D2 f2 qual2 st2 ∧ XTxt P qual2 p2 st2 ∧ XSup K C D2 B i newId bt ∧ Body1 p2 (defBody st2) ∧ IniF B i bt ∧ NewF Bn newId bt ∧ XFld K C f bt ∧ Body2 p f (defBody st) ∧ mg x = some (.ref C)
section
variable {X : Cx} {x f : Str} {C : Addr} {e : Expr} {ta : TA} {p pos pos' : Pos}
theorem pmk_x3 (T : Exc3 X.prog X.K X.mg x C f) (hr : Room 2 X.A) (hg : Gl X x) (ha : PA X [e] ta) (hdb : (x == ("__debug__" : Str)) = false := by decide) (he : starEach [e] X.env = (false, eval e X.env) :: starEach [] X.env := by rfl) :
    PMk X (.Call (.Name x p) [e] [] pos) (fun σ H Q => ta σ H fun vs H1 => ∃ v, vs = [v] ∧ ∀ d, H1 d = none → Q (.ref C) (some d) (upd H1 d (.xd [(f, v)]))) := by
  obtain ⟨D, fI, f2, D2, qual, q, qual2, p2, st, st2, B, Bn, i, newId, bt, DX, TX, Z, Z3, DX2, T2, Z2, hb2, FI, FN, Y, hb, hm⟩ := T
  intro pins s σ H Q I h
  refine wpAny_Call_Name_kw (ld_glob I hg hm ?_ hdb)
  refine PySem.W.callWith_K (h₀ := X.base) I.ok.mod.kin Z.kC (thn (ha.run pos pins s σ H _ I h) fun us s1 ⟨vs, H1, I1, r1, w, hl, q1⟩ => ⟨I1.kIn, ?_⟩) he rfl
  subst hl
  show wpAny _ _ (call (.ref C) us) _ _ _
  obtain ⟨nm, N', qn, bs, bm, hdct, sn, sub, ab, col, dd, k0, k1, k2, k3, k5, hC, hT⟩ := PySem.W.excInit_of I1.kIn Z.ei
  cases r1 with
  | @cons _ v _ us' rv rn =>
  cases rn
  obtain ⟨hp, g, d, t, os⟩ := s1
  have kk : ∀ b o, hp.get? b = some o → ((hp.push (PySem.W.excTup [v])).push (xO C hp.objs.size none)).get? b = some o := fun b o e => Heap.get?_push_of_some _ (Heap.get?_push_of_some _ e)
  have hget : ((hp.push (PySem.W.excTup [v])).push (xO C hp.objs.size none)).get? (hp.objs.size + 1) = some (xO C hp.objs.size none) := by heap_get
  have hn : hp.get? (hp.objs.size + 1) = none := Heap.get?_none_of_le (Nat.le_succ _)
  refine wpAny_call (xn_call FN hT hC (PySem.W.looks_findIn I1.kIn Z.init) (fun self => PySem.W.bind_fn I1.kIn self Z.ty) (by show 1 ≤ sizeLine; decide) ?_)
  refine xs_run3 I1.ok.mod (fun b o z => kk b o (I1.bk b o z)) DX TX Z3 DX2 T2 Z2 hb2 FI Y hb (base_new I1 (Nat.le_succ _)) (hr.make C [v] []).depth (fun env => ((hr.make C [v] []).deeper env).depth) hget fun h' t1 tk dx k' ds dn e' n' => ⟨rfl, ?_⟩
  have k2 : ∀ b o, hp.get? b = some o → h'.get? b = some o := fun b o z => k' b o (fun y => by rw [y, hn] at z; cases z) (kk b o z)
  obtain ⟨G, g1, g2⟩ := restrict h' fun b => decide (b ≠ hp.objs.size + 1)
  have gk : ∀ b, b ≠ hp.objs.size + 1 → G.get? b = h'.get? b := fun b hb => g1 b (decide_eq_true hb)
  have ge : G.get? (hp.objs.size + 1) = none := g2 _ (by simp)
  have kG : ∀ b o, hp.get? b = some o → G.get? b = some o := fun b o z => (gk b fun y => by rw [y, hn] at z; cases z).trans (k2 b o z)
  have hd2 : hp.objs.size ≤ dx := by
    have z := ds
    rw [Heap.size_push, Heap.size_push] at z
    omega
  have nd : H1 dx = none := I1.hok.fresh hd2
  have J : Inv X pins σ (upd H1 dx (.xd [(f, w)])) ⟨G, g, d, t, os⟩ := I1.laid (t' := t) kG hd2 ⟨fun y => if y = f then some v else none, n'.at fun o z => (gk dx dn).trans z, relO_put (fs := []) (mA := fun _ => none) rv fun g => True.intro⟩
  refine ⟨_, _, _, ⟨G, g, d, t, os⟩, _, .ref C, some dx, rfl, J, fun b o z => ?_, ge, e', ⟨rfl, rfl⟩, rfl, rfl, ?_, rfl, I1.bare, raises_own Z.subE Z.tyC, q1 dx nd⟩
  · by_cases hb : b = hp.objs.size + 1
    · rw [hb, ge] at z; cases z
    · exact (gk b hb).symm.trans z
  · rw [upd_ne (Ne.symm dn)]; exact I1.hok.gone hn
variable {W : WX} {m : Rho → M D}
theorem pd_xo3 (T : Exc3 X.prog X.K X.mg x C f) (hr : Room 2 X.A) (hg : Gl X x) (ha : PDE X W e m) (hdb : (x == ("__debug__" : Str)) = false := by decide) (he : starEach [e] X.env = (false, eval e X.env) :: starEach [] X.env := by rfl) :
    PDE X W (.Call (.Name x p) [e] [] pos) (xo2M C f m) := PE.imp (pe_held (pmk_x3 T hr hg (pa_cons ha pa_nil he) hdb he)) fun σ H Q ⟨w, ρ, a, h⟩ =>
  tE_bind (f := fun _ d => pure (D.xo C [f] [d])) a h fun d v w1 e1 a1 hv h1 => ⟨v, rfl, fun dx hd b hb => by
    obtain ⟨d2, x2⟩ := a1.2.1.settle (o := .xd [(f, v)]) hd
    have ne : b ≠ dx := fun z => by rw [z, upd_same] at hb; cases hb
    obtain ⟨d3, x3⟩ := d2.settle (o := XOb (.ref C) (some dx) b) hb
    refine h1 { w1 with B := upd (upd w1.B dx (.xd [(f, v)])) b (XOb (.ref C) (some dx) b), H := upd (upd w1.H dx (.xd [(f, v)])) b (XOb (.ref C) (some dx) b) } rfl (x2.trans d2 x3) d3 _ (.xo (dd := some dx) (vs := [v]) upd_same (fun dy q => ?_) (fun q => nomatch q) rfl (.cons (Dt.ex (x2.trans d2 x3) hv) .nil))
    cases q
    exact (upd_ne (Ne.symm ne)).trans upd_same⟩
end
theorem x3_of {K : Frag} {C D fI D2 f2 : Addr} {B i newId : String} {bt : List Value} (h : x3B K C D fI D2 f2 B i newId bt = true) : XMk K C fI newId bt ∧ XSup2 K C D f2 ∧ XSup K C D2 B i newId bt := by
  unfold x3B at h
  simp only [Bool.and_eq_true, decide_eq_true_eq] at h
  obtain ⟨⟨a1, a2, a3, a4, a5, a6⟩, ⟨b1, b2, b3, b4, b5, b6⟩, d1, d2, d3⟩ := h
  exact ⟨⟨a1, a2, a3, a4, a5, a6⟩, ⟨b1, b2, b3, b4, b5, b6⟩, ⟨a3, d1, d2, d3, a4, a5, a6, b5, b6⟩⟩
set_option maxHeartbeats 4000000
open LamX
theorem bl {E : XK} : Blind (fun c d _ H => E c d H) := fun _ _ _ _ _ h => h
theorem bo_abs : bootBuiltins "abs" = some (.builtin "abs") := by decide +kernel
theorem bo_int : bootBuiltins "int" = some (.type "int") := by decide +kernel
theorem bo_len : bootBuiltins "len" = some (.builtin "len") := by decide +kernel
theorem bo_max : bootBuiltins "max" = some (.builtin "max") := by decide +kernel
theorem bo_min : bootBuiltins "min" = some (.builtin "min") := by decide +kernel
theorem bo_repr : bootBuiltins "repr" = some (.builtin "repr") := by decide +kernel
structure Ad where
  c : Cs
  f__law_well : Addr
  d__law_well : FuncData
  f__law_dip : Addr
  d__law_dip : FuncData
  f__law_choose : Addr
  d__law_choose : FuncData
  f__law_messages : Addr
  d__law_messages : FuncData
  f__law_kinds : Addr
  d__law_kinds : FuncData
  f__law_others : Addr
  d__law_others : FuncData
  f__law_right : Addr
  k__law_right : Addr
  d__law_right : FuncData
  f_law : Addr
  k_law : Addr
  d_law : FuncData
structure Txt (P : Program) (K : Frag) (mg : Str → Option Value) (a : Ad) : Prop where
  F__law_well : Fun K "_law_well" "_law_well" s__law_well a.f__law_well a.d__law_well
  g__law_well : mg "_law_well" = some (.ref a.f__law_well)
  B__law_well : Binds K a.d__law_well ["_law_script", "_law_spot"] []
  F__law_dip : Fun K "_law_dip" "_law_dip" s__law_dip a.f__law_dip a.d__law_dip
  g__law_dip : mg "_law_dip" = some (.ref a.f__law_dip)
  B__law_dip : Binds K a.d__law_dip ["_law_well_here", "_law_size"] []
  F__law_choose : Fun K "_law_choose" "_law_choose" s__law_choose a.f__law_choose a.d__law_choose
  g__law_choose : mg "_law_choose" = some (.ref a.f__law_choose)
  B__law_choose : Binds K a.d__law_choose ["_law_well_here", "_law_items"] []
  F__law_messages : Fun K "_law_messages" "_law_messages" s__law_messages a.f__law_messages a.d__law_messages
  g__law_messages : mg "_law_messages" = some (.ref a.f__law_messages)
  B__law_messages : Binds K a.d__law_messages ["_law_word"] []
  F__law_kinds : Fun K "_law_kinds" "_law_kinds" s__law_kinds a.f__law_kinds a.d__law_kinds
  g__law_kinds : mg "_law_kinds" = some (.ref a.f__law_kinds)
  B__law_kinds : Binds K a.d__law_kinds ["_law_error"] []
  F__law_others : Fun K "_law_others" "_law_others" s__law_others a.f__law_others a.d__law_others
  g__law_others : mg "_law_others" = some (.ref a.f__law_others)
  B__law_others : Binds K a.d__law_others ["_law_error"] []
  F__law_right : FunC K "_law_right" "_law_right" s__law_right a.f__law_right a.k__law_right a.d__law_right
  g__law_right : mg "_law_right" = some (.ref a.f__law_right)
  B__law_right : Binds K a.d__law_right ["_law_well_here"] []
  F_law : FunC K "law" "law" s_law a.f_law a.k_law a.d_law
  g_law : mg "law" = some (.ref a.f_law)
  B_law : Binds K a.d_law ["_law_script"] []
  kits : Kits K a.c.all
  b_ArithmeticError : mg "ArithmeticError" = none
  b_IndexError : mg "IndexError" = none
  b_KeyError : mg "KeyError" = none
  b_LookupError : mg "LookupError" = none
  b_OverflowError : mg "OverflowError" = none
  b_ValueError : mg "ValueError" = none
  b_abs : mg "abs" = none
  b_enumerate : mg "enumerate" = none
  b_int : mg "int" = none
  b_isinstance : mg "isinstance" = none
  b_len : mg "len" = none
  b_max : mg "max" = none
  b_min : mg "min" = none
  b_range : mg "range" = none
  b_repr : mg "repr" = none
  gx_AnswerError : mg "AnswerError" = some (.ref a.c.AnswerError)
  in_AnswerError : a.c.AnswerError ∈ a.c.xs
  x_AnswerError : Exc1 P K mg "AnswerError" a.c.AnswerError
  gx_InvalidProgram : mg "InvalidProgram" = some (.ref a.c.InvalidProgram)
  in_InvalidProgram : a.c.InvalidProgram ∈ a.c.xs
  x_InvalidProgram : Exc1 P K mg "InvalidProgram" a.c.InvalidProgram
  gx_InvalidMode : mg "InvalidMode" = some (.ref a.c.InvalidMode)
  in_InvalidMode : a.c.InvalidMode ∈ a.c.xs
  x_InvalidMode : Exc1 P K mg "InvalidMode" a.c.InvalidMode
  gx_InvalidTable : mg "InvalidTable" = some (.ref a.c.InvalidTable)
  in_InvalidTable : a.c.InvalidTable ∈ a.c.xs
  x_InvalidTable : Exc1 P K mg "InvalidTable" a.c.InvalidTable
  gx_InvalidRun : mg "InvalidRun" = some (.ref a.c.InvalidRun)
  in_InvalidRun : a.c.InvalidRun ∈ a.c.xs
  x_InvalidRun : Exc1 P K mg "InvalidRun" a.c.InvalidRun
  gx_InvalidFact : mg "InvalidFact" = some (.ref a.c.InvalidFact)
  in_InvalidFact : a.c.InvalidFact ∈ a.c.xs
  x_InvalidFact : Exc1 P K mg "InvalidFact" a.c.InvalidFact
  gx_InvalidDerivation : mg "InvalidDerivation" = some (.ref a.c.InvalidDerivation)
  in_InvalidDerivation : a.c.InvalidDerivation ∈ a.c.xs
  x_InvalidDerivation : Exc1 P K mg "InvalidDerivation" a.c.InvalidDerivation
  gx_InvalidOperation : mg "InvalidOperation" = some (.ref a.c.InvalidOperation)
  in_InvalidOperation : a.c.InvalidOperation ∈ a.c.xs
  x_InvalidOperation : Exc1 P K mg "InvalidOperation" a.c.InvalidOperation
  gx_InvalidCommand : mg "InvalidCommand" = some (.ref a.c.InvalidCommand)
  in_InvalidCommand : a.c.InvalidCommand ∈ a.c.xs
  x_InvalidCommand : Exc1 P K mg "InvalidCommand" a.c.InvalidCommand
  gx_ParseError : mg "ParseError" = some (.ref a.c.ParseError)
  in_ParseError : a.c.ParseError ∈ a.c.xs
  x_ParseError : Exc3 P K mg "ParseError" a.c.ParseError "line"
  gx_UnknownName : mg "UnknownName" = some (.ref a.c.UnknownName)
  in_UnknownName : a.c.UnknownName ∈ a.c.xs
  x_UnknownName : Exc2 P K mg "UnknownName" a.c.UnknownName "name"
  gx_UnknownSite : mg "UnknownSite" = some (.ref a.c.UnknownSite)
  in_UnknownSite : a.c.UnknownSite ∈ a.c.xs
  x_UnknownSite : Exc2 P K mg "UnknownSite" a.c.UnknownSite "site"
  gx_InvalidNumber : mg "InvalidNumber" = some (.ref a.c.InvalidNumber)
  in_InvalidNumber : a.c.InvalidNumber ∈ a.c.xs
  x_InvalidNumber : Exc2 P K mg "InvalidNumber" a.c.InvalidNumber "value"
  gx_NothingToUndo : mg "NothingToUndo" = some (.ref a.c.NothingToUndo)
  in_NothingToUndo : a.c.NothingToUndo ∈ a.c.xs
  x_NothingToUndo : Exc2 P K mg "NothingToUndo" a.c.NothingToUndo "many"
  gx_Refused : mg "Refused" = some (.ref a.c.Refused)
  in_Refused : a.c.Refused ∈ a.c.xs
  x_Refused : Exc2 P K mg "Refused" a.c.Refused "name"
  gx_TooMany : mg "TooMany" = some (.ref a.c.TooMany)
  in_TooMany : a.c.TooMany ∈ a.c.xs
  x_TooMany : Exc2 P K mg "TooMany" a.c.TooMany "limit"
  xr_InvalidNumber : XRd K a.c.InvalidNumber "value"
  xr_NothingToUndo : XRd K a.c.NothingToUndo "many"
  xr_ParseError : XRd K a.c.ParseError "line"
  xr_Refused : XRd K a.c.Refused "name"
  xr_TooMany : XRd K a.c.TooMany "limit"
  xr_UnknownName : XRd K a.c.UnknownName "name"
  xr_UnknownSite : XRd K a.c.UnknownSite "site"
  sm : ∃ o, K.lookup sysModules = some o
  xk_AnswerError : XKit K [a.c.AnswerError, a.c.InvalidProgram, a.c.InvalidMode, a.c.InvalidTable, a.c.InvalidRun, a.c.InvalidFact, a.c.InvalidDerivation, a.c.InvalidOperation, a.c.InvalidCommand, a.c.ParseError, a.c.UnknownName, a.c.UnknownSite, a.c.InvalidNumber, a.c.NothingToUndo, a.c.Refused, a.c.TooMany] [a.c.AnswerError, a.c.InvalidProgram, a.c.InvalidMode, a.c.InvalidTable, a.c.InvalidRun, a.c.InvalidFact, a.c.InvalidDerivation, a.c.InvalidOperation, a.c.InvalidCommand, a.c.ParseError] (.ref a.c.AnswerError)
  xk_ArithmeticError : XKit K [a.c.AnswerError, a.c.InvalidProgram, a.c.InvalidMode, a.c.InvalidTable, a.c.InvalidRun, a.c.InvalidFact, a.c.InvalidDerivation, a.c.InvalidOperation, a.c.InvalidCommand, a.c.ParseError, a.c.UnknownName, a.c.UnknownSite, a.c.InvalidNumber, a.c.NothingToUndo, a.c.Refused, a.c.TooMany] [a.c.Refused, a.c.TooMany] (.type "ArithmeticError")
  xk_IndexError : XKit K [a.c.AnswerError, a.c.InvalidProgram, a.c.InvalidMode, a.c.InvalidTable, a.c.InvalidRun, a.c.InvalidFact, a.c.InvalidDerivation, a.c.InvalidOperation, a.c.InvalidCommand, a.c.ParseError, a.c.UnknownName, a.c.UnknownSite, a.c.InvalidNumber, a.c.NothingToUndo, a.c.Refused, a.c.TooMany] [a.c.InvalidNumber] (.type "IndexError")
  xk_InvalidCommand : XKit K [a.c.AnswerError, a.c.InvalidProgram, a.c.InvalidMode, a.c.InvalidTable, a.c.InvalidRun, a.c.InvalidFact, a.c.InvalidDerivation, a.c.InvalidOperation, a.c.InvalidCommand, a.c.ParseError, a.c.UnknownName, a.c.UnknownSite, a.c.InvalidNumber, a.c.NothingToUndo, a.c.Refused, a.c.TooMany] [a.c.InvalidCommand] (.ref a.c.InvalidCommand)
  xk_InvalidDerivation : XKit K [a.c.AnswerError, a.c.InvalidProgram, a.c.InvalidMode, a.c.InvalidTable, a.c.InvalidRun, a.c.InvalidFact, a.c.InvalidDerivation, a.c.InvalidOperation, a.c.InvalidCommand, a.c.ParseError, a.c.UnknownName, a.c.UnknownSite, a.c.InvalidNumber, a.c.NothingToUndo, a.c.Refused, a.c.TooMany] [a.c.InvalidDerivation] (.ref a.c.InvalidDerivation)
  xk_InvalidFact : XKit K [a.c.AnswerError, a.c.InvalidProgram, a.c.InvalidMode, a.c.InvalidTable, a.c.InvalidRun, a.c.InvalidFact, a.c.InvalidDerivation, a.c.InvalidOperation, a.c.InvalidCommand, a.c.ParseError, a.c.UnknownName, a.c.UnknownSite, a.c.InvalidNumber, a.c.NothingToUndo, a.c.Refused, a.c.TooMany] [a.c.InvalidFact] (.ref a.c.InvalidFact)
  xk_InvalidMode : XKit K [a.c.AnswerError, a.c.InvalidProgram, a.c.InvalidMode, a.c.InvalidTable, a.c.InvalidRun, a.c.InvalidFact, a.c.InvalidDerivation, a.c.InvalidOperation, a.c.InvalidCommand, a.c.ParseError, a.c.UnknownName, a.c.UnknownSite, a.c.InvalidNumber, a.c.NothingToUndo, a.c.Refused, a.c.TooMany] [a.c.InvalidMode] (.ref a.c.InvalidMode)
  xk_InvalidNumber : XKit K [a.c.AnswerError, a.c.InvalidProgram, a.c.InvalidMode, a.c.InvalidTable, a.c.InvalidRun, a.c.InvalidFact, a.c.InvalidDerivation, a.c.InvalidOperation, a.c.InvalidCommand, a.c.ParseError, a.c.UnknownName, a.c.UnknownSite, a.c.InvalidNumber, a.c.NothingToUndo, a.c.Refused, a.c.TooMany] [a.c.InvalidNumber] (.ref a.c.InvalidNumber)
  xk_InvalidOperation : XKit K [a.c.AnswerError, a.c.InvalidProgram, a.c.InvalidMode, a.c.InvalidTable, a.c.InvalidRun, a.c.InvalidFact, a.c.InvalidDerivation, a.c.InvalidOperation, a.c.InvalidCommand, a.c.ParseError, a.c.UnknownName, a.c.UnknownSite, a.c.InvalidNumber, a.c.NothingToUndo, a.c.Refused, a.c.TooMany] [a.c.InvalidOperation] (.ref a.c.InvalidOperation)
  xk_InvalidProgram : XKit K [a.c.AnswerError, a.c.InvalidProgram, a.c.InvalidMode, a.c.InvalidTable, a.c.InvalidRun, a.c.InvalidFact, a.c.InvalidDerivation, a.c.InvalidOperation, a.c.InvalidCommand, a.c.ParseError, a.c.UnknownName, a.c.UnknownSite, a.c.InvalidNumber, a.c.NothingToUndo, a.c.Refused, a.c.TooMany] [a.c.InvalidProgram] (.ref a.c.InvalidProgram)
  xk_InvalidRun : XKit K [a.c.AnswerError, a.c.InvalidProgram, a.c.InvalidMode, a.c.InvalidTable, a.c.InvalidRun, a.c.InvalidFact, a.c.InvalidDerivation, a.c.InvalidOperation, a.c.InvalidCommand, a.c.ParseError, a.c.UnknownName, a.c.UnknownSite, a.c.InvalidNumber, a.c.NothingToUndo, a.c.Refused, a.c.TooMany] [a.c.InvalidRun] (.ref a.c.InvalidRun)
  xk_InvalidTable : XKit K [a.c.AnswerError, a.c.InvalidProgram, a.c.InvalidMode, a.c.InvalidTable, a.c.InvalidRun, a.c.InvalidFact, a.c.InvalidDerivation, a.c.InvalidOperation, a.c.InvalidCommand, a.c.ParseError, a.c.UnknownName, a.c.UnknownSite, a.c.InvalidNumber, a.c.NothingToUndo, a.c.Refused, a.c.TooMany] [a.c.InvalidTable] (.ref a.c.InvalidTable)
  xk_KeyError : XKit K [a.c.AnswerError, a.c.InvalidProgram, a.c.InvalidMode, a.c.InvalidTable, a.c.InvalidRun, a.c.InvalidFact, a.c.InvalidDerivation, a.c.InvalidOperation, a.c.InvalidCommand, a.c.ParseError, a.c.UnknownName, a.c.UnknownSite, a.c.InvalidNumber, a.c.NothingToUndo, a.c.Refused, a.c.TooMany] [a.c.UnknownName, a.c.UnknownSite] (.type "KeyError")
  xk_LookupError : XKit K [a.c.AnswerError, a.c.InvalidProgram, a.c.InvalidMode, a.c.InvalidTable, a.c.InvalidRun, a.c.InvalidFact, a.c.InvalidDerivation, a.c.InvalidOperation, a.c.InvalidCommand, a.c.ParseError, a.c.UnknownName, a.c.UnknownSite, a.c.InvalidNumber, a.c.NothingToUndo, a.c.Refused, a.c.TooMany] [a.c.UnknownName, a.c.UnknownSite, a.c.InvalidNumber, a.c.NothingToUndo] (.type "LookupError")
  xk_NothingToUndo : XKit K [a.c.AnswerError, a.c.InvalidProgram, a.c.InvalidMode, a.c.InvalidTable, a.c.InvalidRun, a.c.InvalidFact, a.c.InvalidDerivation, a.c.InvalidOperation, a.c.InvalidCommand, a.c.ParseError, a.c.UnknownName, a.c.UnknownSite, a.c.InvalidNumber, a.c.NothingToUndo, a.c.Refused, a.c.TooMany] [a.c.NothingToUndo] (.ref a.c.NothingToUndo)
  xk_OverflowError : XKit K [a.c.AnswerError, a.c.InvalidProgram, a.c.InvalidMode, a.c.InvalidTable, a.c.InvalidRun, a.c.InvalidFact, a.c.InvalidDerivation, a.c.InvalidOperation, a.c.InvalidCommand, a.c.ParseError, a.c.UnknownName, a.c.UnknownSite, a.c.InvalidNumber, a.c.NothingToUndo, a.c.Refused, a.c.TooMany] [a.c.TooMany] (.type "OverflowError")
  xk_ParseError : XKit K [a.c.AnswerError, a.c.InvalidProgram, a.c.InvalidMode, a.c.InvalidTable, a.c.InvalidRun, a.c.InvalidFact, a.c.InvalidDerivation, a.c.InvalidOperation, a.c.InvalidCommand, a.c.ParseError, a.c.UnknownName, a.c.UnknownSite, a.c.InvalidNumber, a.c.NothingToUndo, a.c.Refused, a.c.TooMany] [a.c.ParseError] (.ref a.c.ParseError)
  xk_Refused : XKit K [a.c.AnswerError, a.c.InvalidProgram, a.c.InvalidMode, a.c.InvalidTable, a.c.InvalidRun, a.c.InvalidFact, a.c.InvalidDerivation, a.c.InvalidOperation, a.c.InvalidCommand, a.c.ParseError, a.c.UnknownName, a.c.UnknownSite, a.c.InvalidNumber, a.c.NothingToUndo, a.c.Refused, a.c.TooMany] [a.c.Refused] (.ref a.c.Refused)
  xk_TooMany : XKit K [a.c.AnswerError, a.c.InvalidProgram, a.c.InvalidMode, a.c.InvalidTable, a.c.InvalidRun, a.c.InvalidFact, a.c.InvalidDerivation, a.c.InvalidOperation, a.c.InvalidCommand, a.c.ParseError, a.c.UnknownName, a.c.UnknownSite, a.c.InvalidNumber, a.c.NothingToUndo, a.c.Refused, a.c.TooMany] [a.c.TooMany] (.ref a.c.TooMany)
  xk_UnknownName : XKit K [a.c.AnswerError, a.c.InvalidProgram, a.c.InvalidMode, a.c.InvalidTable, a.c.InvalidRun, a.c.InvalidFact, a.c.InvalidDerivation, a.c.InvalidOperation, a.c.InvalidCommand, a.c.ParseError, a.c.UnknownName, a.c.UnknownSite, a.c.InvalidNumber, a.c.NothingToUndo, a.c.Refused, a.c.TooMany] [a.c.UnknownName] (.ref a.c.UnknownName)
  xk_UnknownSite : XKit K [a.c.AnswerError, a.c.InvalidProgram, a.c.InvalidMode, a.c.InvalidTable, a.c.InvalidRun, a.c.InvalidFact, a.c.InvalidDerivation, a.c.InvalidOperation, a.c.InvalidCommand, a.c.ParseError, a.c.UnknownName, a.c.UnknownSite, a.c.InvalidNumber, a.c.NothingToUndo, a.c.Refused, a.c.TooMany] [a.c.UnknownSite] (.ref a.c.UnknownSite)
  xk_ValueError : XKit K [a.c.AnswerError, a.c.InvalidProgram, a.c.InvalidMode, a.c.InvalidTable, a.c.InvalidRun, a.c.InvalidFact, a.c.InvalidDerivation, a.c.InvalidOperation, a.c.InvalidCommand, a.c.ParseError, a.c.UnknownName, a.c.UnknownSite, a.c.InvalidNumber, a.c.NothingToUndo, a.c.Refused, a.c.TooMany] [a.c.AnswerError, a.c.InvalidProgram, a.c.InvalidMode, a.c.InvalidTable, a.c.InvalidRun, a.c.InvalidFact, a.c.InvalidDerivation, a.c.InvalidOperation, a.c.InvalidCommand, a.c.ParseError] (.type "ValueError")
structure TxB (base : Heap) (mg : Str → Option Value) (a : Ad) : Prop where
  triv : True
theorem sc__law_well : FnScope ["_law_script", "_law_spot", "_law_cell", "_law_great", "_law_seed"] ["_law_script", "_law_spot"] (defScope s__law_well) := ⟨rfl, rfl, rfl, by decide +kernel, rfl, by decide +kernel, by decide +kernel⟩
theorem sc__law_dip : FnScope ["_law_well_here", "_law_size", "_law_one", "_law_two", "_law_found"] ["_law_well_here", "_law_size"] (defScope s__law_dip) := ⟨rfl, rfl, rfl, by decide +kernel, rfl, by decide +kernel, by decide +kernel⟩
theorem sc__law_choose : FnScope ["_law_well_here", "_law_items"] ["_law_well_here", "_law_items"] (defScope s__law_choose) := ⟨rfl, rfl, rfl, by decide +kernel, rfl, by decide +kernel, by decide +kernel⟩
theorem sc__law_messages : FnScope ["_law_word", "_law_found"] ["_law_word"] (defScope s__law_messages) := ⟨rfl, rfl, rfl, by decide +kernel, rfl, by decide +kernel, by decide +kernel⟩
theorem sc__law_kinds : FnScope ["_law_error", "_law_found"] ["_law_error"] (defScope s__law_kinds) := ⟨rfl, rfl, rfl, by decide +kernel, rfl, by decide +kernel, by decide +kernel⟩
theorem sc__law_others : FnScope ["_law_error", "_law_found"] ["_law_error"] (defScope s__law_others) := ⟨rfl, rfl, rfl, by decide +kernel, rfl, by decide +kernel, by decide +kernel⟩
theorem sc__law_right : FnScope ["_law_well_here", "_law_some", "_law_items", "_law_word", "_law_parse", "_law_told", "_law_python", "_law_at", "_law_error", "_law_due", "_law_name", "_law_site", "_law_number", "_law_undo", "_law_refused", "_law_over", "_law_turn", "_law_one"] ["_law_well_here"] (defScope s__law_right) := ⟨rfl, rfl, rfl, by decide +kernel, rfl, by decide +kernel, by decide +kernel⟩
theorem sc_law : FnScope ["_law_script", "_law_spot"] ["_law_script"] (defScope s_law) := ⟨rfl, rfl, rfl, by decide +kernel, rfl, by decide +kernel, by decide +kernel⟩
section
variable {P : Program} {w : World} {K : Frag} {mg : Str → Option Value} {base : Heap} {a : Ad}
theorem tm__law_well (T : Txt P K mg a) (cdv : Value) (A : Around) (outer : List Env) (s : Shared) (H : Hp) (E : XK) (hr : Room 0 (A.deeper (envOfC "_law_well" (defScope s__law_well) s.heap.objs.size a.f__law_well cdv))) :
    PDSs (cxOf (L2.CX P w) P w K mg base ["_law_script", "_law_spot", "_law_cell", "_law_great", "_law_seed"] "_law_well" (defScope s__law_well) a.f__law_well cdv A outer s H E) (fun c d _ H => E c d H) (defBody s__law_well) (den__law_well a.c) := by
  have tk : Takes (cxOf (L2.CX P w) P w K mg base ["_law_script", "_law_spot", "_law_cell", "_law_great", "_law_seed"] "_law_well" (defScope s__law_well) a.f__law_well cdv A outer s H E) (fun c d _ H => E c d H) := takes_of rfl rfl rfl rfl
  exact (pdss_cons bl (pds_set 2 (pd_if (pdt_cmp (o_ltT (Nat.lt_of_succ_lt (hu_of hr))) (pd_var 1) (pd_blt c_lenD (by rfl) T.b_len bo_len (pda_cons (pd_var 0) pda_nil)) (nomark _)) (pd_ixx (hu_of hr) (pd_var 0) (pd_var 1)) (pd_op o_add (pd_op o_mulT pd_int (pd_var 1)) pd_int)) sc__law_well.nd) (pdss_cons bl (pds_set 3 (pd_op o_mod (pd_bty c_int (by rfl) T.b_int bo_int (pda_cons (pd_blt c_abs (by rfl) T.b_abs bo_abs (pda_cons (pd_var 2) pda_nil)) pda_nil)) (pd_op o_powW (pd_op o_powW pd_int pd_int) pd_int)) sc__law_well.nd) (pdss_cons bl (pds_set 4 (pd_op o_mod (pd_bty c_int (by rfl) T.b_int bo_int (pda_cons (pd_op o_add (pd_op o_add (pd_op o_add (pd_op o_mulT (pd_var 3) pd_int) (pd_op o_mulT pd_int (pd_var 1))) (pd_op o_mulT pd_int (pd_bty c_int (by rfl) T.b_int bo_int (pda_cons (pd_cmp (o_ltT (Nat.lt_of_succ_lt (hu_of hr))) (pd_var 2) pd_int (nomark _)) pda_nil)))) pd_int) pda_nil)) pd_int) sc__law_well.nd) (pdss_one (pds_ret (pd_obj (pda_cons (pd_blt (c_max2 rfl) (by rfl) T.b_max bo_max (pda_cons pd_int (pda_cons (pd_op o_sub (pd_var 3) (pd_op o_powW pd_int pd_int)) pda_nil))) (pda_cons (pd_var 4) (pda_cons pd_int pda_nil)))))))))
theorem ok__law_well (T : Txt P K mg a) : FnOk P w K mg base (L2.CX P w) 1 a.f__law_well a.d__law_well ["_law_script", "_law_spot"] (spM K 2 (F__law_well a.c)) :=
  def_ok T.F__law_well sc__law_well (fun cdv A outer s H E hr => tm__law_well T cdv A outer s H E hr) (le__law_well a.c)
theorem tm__law_dip (T : Txt P K mg a) (cdv : Value) (A : Around) (outer : List Env) (s : Shared) (H : Hp) (E : XK) (hr : Room 0 (A.deeper (envOfC "_law_dip" (defScope s__law_dip) s.heap.objs.size a.f__law_dip cdv))) :
    PDSs (cxOf (L2.CX P w) P w K mg base ["_law_well_here", "_law_size", "_law_one", "_law_two", "_law_found"] "_law_dip" (defScope s__law_dip) a.f__law_dip cdv A outer s H E) (fun c d _ H => E c d H) (defBody s__law_dip) (den__law_dip a.c) := by
  have tk : Takes (cxOf (L2.CX P w) P w K mg base ["_law_well_here", "_law_size", "_law_one", "_law_two", "_law_found"] "_law_dip" (defScope s__law_dip) a.f__law_dip cdv A outer s H E) (fun c d _ H => E c d H) := takes_of rfl rfl rfl rfl
  exact (pdss_cons bl (pds_if (pdt_cmp o_gt (pd_ixx (hu_of hr) (pd_var 0) pd_int) pd_int (nomark _)) (pdss_cons bl (pds_set 4 (pd_op o_mod (pd_bty c_int (by rfl) T.b_int bo_int (pda_cons (pd_ixx (hu_of hr) (pd_var 0) pd_int) pda_nil)) (pd_var 1)) sc__law_dip.nd) (pdss_cons bl (pds_setIx (pd_op o_fdiv (pd_ixx (hu_of hr) (pd_var 0) pd_int) (pd_var 1)) (pd_var 0) pd_int) (pdss_one (pds_ret (pd_var 4))))) pdss_nil) (pdss_cons bl (pds_setIx (pd_op o_add (pd_ixx (hu_of hr) (pd_var 0) pd_int) pd_int) (pd_var 0) pd_int) (pdss_cons bl (pds_set 2 (pd_op o_mod (pd_bty c_int (by rfl) T.b_int bo_int (pda_cons (pd_op o_add (pd_ixx (hu_of hr) (pd_var 0) pd_int) (pd_op o_mulT pd_int (pd_ixx (hu_of hr) (pd_var 0) pd_int))) pda_nil)) pd_int) sc__law_dip.nd) (pdss_cons bl (pds_set 3 (pd_op o_add (pd_op o_mulT (pd_op o_mod (pd_bty c_int (by rfl) T.b_int bo_int (pda_cons (pd_op o_mulT (pd_var 2) (pd_var 2)) pda_nil)) pd_int) (pd_var 2)) (pd_op o_mulT pd_int (pd_ixx (hu_of hr) (pd_var 0) pd_int))) sc__law_dip.nd) (pdss_one (pds_ret (pd_op o_mod (pd_bty c_int (by rfl) T.b_int bo_int (pda_cons (pd_op o_fdiv (pd_op o_mod (pd_bty c_int (by rfl) T.b_int bo_int (pda_cons (pd_op o_add (pd_var 3) (pd_ixx (hu_of hr) (pd_var 0) pd_int)) pda_nil)) pd_int) pd_int) pda_nil)) (pd_var 1))))))))
theorem ok__law_dip (T : Txt P K mg a) : FnOk P w K mg base (L2.CX P w) 1 a.f__law_dip a.d__law_dip ["_law_well_here", "_law_size"] (spM K 2 (F__law_dip a.c)) :=
  def_ok T.F__law_dip sc__law_dip (fun cdv A outer s H E hr => tm__law_dip T cdv A outer s H E hr) (le__law_dip a.c)
theorem tm__law_choose (T : Txt P K mg a) (cdv : Value) (A : Around) (outer : List Env) (s : Shared) (H : Hp) (E : XK) (hr : Room 1 (A.deeper (envOfC "_law_choose" (defScope s__law_choose) s.heap.objs.size a.f__law_choose cdv))) :
    PDSs (cxOf (L2.CX P w) P w K mg base ["_law_well_here", "_law_items"] "_law_choose" (defScope s__law_choose) a.f__law_choose cdv A outer s H E) (fun c d _ H => E c d H) (defBody s__law_choose) (den__law_choose a.c) := by
  have tk : Takes (cxOf (L2.CX P w) P w K mg base ["_law_well_here", "_law_items"] "_law_choose" (defScope s__law_choose) a.f__law_choose cdv A outer s H E) (fun c d _ H => E c d H) := takes_of rfl rfl rfl rfl
  exact (pdss_one (pds_ret (pd_ixx (hu_of hr) (pd_var 1) (pd_call (ok__law_dip T) (hr.mono (by decide)) tk (by rfl) T.g__law_dip T.F__law_dip.kp T.B__law_dip (pda_cons (pd_var 0) (pda_cons (pd_blt c_lenD (by rfl) T.b_len bo_len (pda_cons (pd_var 1) pda_nil)) pda_nil))))))
theorem ok__law_choose (T : Txt P K mg a) : FnOk P w K mg base (L2.CX P w) 2 a.f__law_choose a.d__law_choose ["_law_well_here", "_law_items"] (spM K 2 (F__law_choose a.c)) :=
  def_ok T.F__law_choose sc__law_choose (fun cdv A outer s H E hr => tm__law_choose T cdv A outer s H E hr) (le__law_choose a.c)
theorem tm__law_messages (T : Txt P K mg a) (cdv : Value) (A : Around) (outer : List Env) (s : Shared) (H : Hp) (E : XK) (hr : Room 1 (A.deeper (envOfC "_law_messages" (defScope s__law_messages) s.heap.objs.size a.f__law_messages cdv))) :
    PDSs (cxOf (L2.CX P w) P w K mg base ["_law_word", "_law_found"] "_law_messages" (defScope s__law_messages) a.f__law_messages cdv A outer s H E) (fun c d _ H => E c d H) (defBody s__law_messages) (den__law_messages a.c) := by
  have tk : Takes (cxOf (L2.CX P w) P w K mg base ["_law_word", "_law_found"] "_law_messages" (defScope s__law_messages) a.f__law_messages cdv A outer s H E) (fun c d _ H => E c d H) := takes_of rfl rfl rfl rfl
  exact (pdss_cons bl (pds_set 1 (pd_lst (pda_cons (pd_xo1 T.x_AnswerError (hr.mono (by decide)) (by rfl) (pd_var 0)) (pda_cons (pd_xo1 T.x_InvalidProgram (hr.mono (by decide)) (by rfl) (pd_var 0)) (pda_cons (pd_xo1 T.x_InvalidMode (hr.mono (by decide)) (by rfl) (pd_var 0)) (pda_cons (pd_xo1 T.x_InvalidTable (hr.mono (by decide)) (by rfl) (pd_var 0)) (pda_cons (pd_xo1 T.x_InvalidRun (hr.mono (by decide)) (by rfl) (pd_var 0)) pda_nil)))))) sc__law_messages.nd) (pdss_one (pds_ret (pd_op o_add (pd_var 1) (pd_lst (pda_cons (pd_xo1 T.x_InvalidFact (hr.mono (by decide)) (by rfl) (pd_var 0)) (pda_cons (pd_xo1 T.x_InvalidDerivation (hr.mono (by decide)) (by rfl) (pd_var 0)) (pda_cons (pd_xo1 T.x_InvalidOperation (hr.mono (by decide)) (by rfl) (pd_var 0)) (pda_cons (pd_xo1 T.x_InvalidCommand (hr.mono (by decide)) (by rfl) (pd_var 0)) pda_nil)))))))))
theorem ok__law_messages (T : Txt P K mg a) : FnOk P w K mg base (L2.CX P w) 2 a.f__law_messages a.d__law_messages ["_law_word"] (spM K 1 (F__law_messages a.c)) :=
  def_ok T.F__law_messages sc__law_messages (fun cdv A outer s H E hr => tm__law_messages T cdv A outer s H E hr) (le__law_messages a.c)
theorem tm__law_kinds (T : Txt P K mg a) (cdv : Value) (A : Around) (outer : List Env) (s : Shared) (H : Hp) (E : XK) (hr : Room 0 (A.deeper (envOfC "_law_kinds" (defScope s__law_kinds) s.heap.objs.size a.f__law_kinds cdv))) :
    PDSs (cxOf (L2.CX P w) P w K mg base ["_law_error", "_law_found"] "_law_kinds" (defScope s__law_kinds) a.f__law_kinds cdv A outer s H E) (fun c d _ H => E c d H) (defBody s__law_kinds) (den__law_kinds a.c) := by
  have tk : Takes (cxOf (L2.CX P w) P w K mg base ["_law_error", "_law_found"] "_law_kinds" (defScope s__law_kinds) a.f__law_kinds cdv A outer s H E) (fun c d _ H => E c d H) := takes_of rfl rfl rfl rfl
  exact (pdss_cons bl (pds_set 1 (pd_lst (pda_cons (pd_isX T.xk_AnswerError (pd_var 0) (by rfl) T.b_isinstance (by rfl) T.gx_AnswerError) (pda_cons (pd_isX T.xk_InvalidProgram (pd_var 0) (by rfl) T.b_isinstance (by rfl) T.gx_InvalidProgram) (pda_cons (pd_isX T.xk_InvalidMode (pd_var 0) (by rfl) T.b_isinstance (by rfl) T.gx_InvalidMode) pda_nil)))) sc__law_kinds.nd) (pdss_cons bl (pds_set 1 (pd_op o_add (pd_var 1) (pd_lst (pda_cons (pd_isX T.xk_InvalidTable (pd_var 0) (by rfl) T.b_isinstance (by rfl) T.gx_InvalidTable) (pda_cons (pd_isX T.xk_InvalidRun (pd_var 0) (by rfl) T.b_isinstance (by rfl) T.gx_InvalidRun) (pda_cons (pd_isX T.xk_InvalidFact (pd_var 0) (by rfl) T.b_isinstance (by rfl) T.gx_InvalidFact) pda_nil))))) sc__law_kinds.nd) (pdss_cons bl (pds_set 1 (pd_op o_add (pd_var 1) (pd_lst (pda_cons (pd_isX T.xk_InvalidDerivation (pd_var 0) (by rfl) T.b_isinstance (by rfl) T.gx_InvalidDerivation) (pda_cons (pd_isX T.xk_InvalidOperation (pd_var 0) (by rfl) T.b_isinstance (by rfl) T.gx_InvalidOperation) pda_nil)))) sc__law_kinds.nd) (pdss_one (pds_ret (pd_op o_add (pd_var 1) (pd_lst (pda_cons (pd_isX T.xk_InvalidCommand (pd_var 0) (by rfl) T.b_isinstance (by rfl) T.gx_InvalidCommand) (pda_cons (pd_isX T.xk_ParseError (pd_var 0) (by rfl) T.b_isinstance (by rfl) T.gx_ParseError) (pda_cons (pd_isXb T.xk_ValueError (pd_var 0) (by rfl) T.b_isinstance (by rfl) T.b_ValueError (by decide +kernel)) pda_nil))))))))))
theorem ok__law_kinds (T : Txt P K mg a) : FnOk P w K mg base (L2.CX P w) 1 a.f__law_kinds a.d__law_kinds ["_law_error"] (spM K 1 (F__law_kinds a.c)) :=
  def_ok T.F__law_kinds sc__law_kinds (fun cdv A outer s H E hr => tm__law_kinds T cdv A outer s H E hr) (le__law_kinds a.c)
theorem tm__law_others (T : Txt P K mg a) (cdv : Value) (A : Around) (outer : List Env) (s : Shared) (H : Hp) (E : XK) (hr : Room 0 (A.deeper (envOfC "_law_others" (defScope s__law_others) s.heap.objs.size a.f__law_others cdv))) :
    PDSs (cxOf (L2.CX P w) P w K mg base ["_law_error", "_law_found"] "_law_others" (defScope s__law_others) a.f__law_others cdv A outer s H E) (fun c d _ H => E c d H) (defBody s__law_others) (den__law_others a.c) := by
  have tk : Takes (cxOf (L2.CX P w) P w K mg base ["_law_error", "_law_found"] "_law_others" (defScope s__law_others) a.f__law_others cdv A outer s H E) (fun c d _ H => E c d H) := takes_of rfl rfl rfl rfl
  exact (pdss_cons bl (pds_set 1 (pd_lst (pda_cons (pd_isX T.xk_UnknownName (pd_var 0) (by rfl) T.b_isinstance (by rfl) T.gx_UnknownName) (pda_cons (pd_isX T.xk_UnknownSite (pd_var 0) (by rfl) T.b_isinstance (by rfl) T.gx_UnknownSite) (pda_cons (pd_isX T.xk_InvalidNumber (pd_var 0) (by rfl) T.b_isinstance (by rfl) T.gx_InvalidNumber) pda_nil)))) sc__law_others.nd) (pdss_cons bl (pds_set 1 (pd_op o_add (pd_var 1) (pd_lst (pda_cons (pd_isX T.xk_NothingToUndo (pd_var 0) (by rfl) T.b_isinstance (by rfl) T.gx_NothingToUndo) (pda_cons (pd_isX T.xk_Refused (pd_var 0) (by rfl) T.b_isinstance (by rfl) T.gx_Refused) (pda_cons (pd_isX T.xk_TooMany (pd_var 0) (by rfl) T.b_isinstance (by rfl) T.gx_TooMany) pda_nil))))) sc__law_others.nd) (pdss_cons bl (pds_set 1 (pd_op o_add (pd_var 1) (pd_lst (pda_cons (pd_isXb T.xk_KeyError (pd_var 0) (by rfl) T.b_isinstance (by rfl) T.b_KeyError (by decide +kernel)) (pda_cons (pd_isXb T.xk_IndexError (pd_var 0) (by rfl) T.b_isinstance (by rfl) T.b_IndexError (by decide +kernel)) (pda_cons (pd_isXb T.xk_LookupError (pd_var 0) (by rfl) T.b_isinstance (by rfl) T.b_LookupError (by decide +kernel)) pda_nil))))) sc__law_others.nd) (pdss_one (pds_ret (pd_op o_add (pd_var 1) (pd_lst (pda_cons (pd_isXb T.xk_ArithmeticError (pd_var 0) (by rfl) T.b_isinstance (by rfl) T.b_ArithmeticError (by decide +kernel)) (pda_cons (pd_isXb T.xk_OverflowError (pd_var 0) (by rfl) T.b_isinstance (by rfl) T.b_OverflowError (by decide +kernel)) pda_nil)))))))))
theorem ok__law_others (T : Txt P K mg a) : FnOk P w K mg base (L2.CX P w) 1 a.f__law_others a.d__law_others ["_law_error"] (spM K 1 (F__law_others a.c)) :=
  def_ok T.F__law_others sc__law_others (fun cdv A outer s H E hr => tm__law_others T cdv A outer s H E hr) (le__law_others a.c)
theorem tm__law_right (T : Txt P K mg a) (TB : TxB base mg a) (A : Around) (outer : List Env) (s : Shared) (H : Hp) (E : XK) (hr : Room 2 (A.deeper (envOfC "_law_right" (defScope s__law_right) s.heap.objs.size a.f__law_right (.ref a.k__law_right)))) (hgd : A.guards = some []) :
    PDSs (cxOf (L2.CX P w) P w K mg base ["_law_well_here", "_law_some", "_law_items", "_law_word", "_law_parse", "_law_told", "_law_python", "_law_at", "_law_error", "_law_due", "_law_name", "_law_site", "_law_number", "_law_undo", "_law_refused", "_law_over", "_law_turn", "_law_one"] "_law_right" (defScope s__law_right) a.f__law_right (.ref a.k__law_right) A outer s H E) (fun c d _ H => E c d H) (defBody s__law_right) (den__law_right a.c) := by
  have tk : Takes (cxOf (L2.CX P w) P w K mg base ["_law_well_here", "_law_some", "_law_items", "_law_word", "_law_parse", "_law_told", "_law_python", "_law_at", "_law_error", "_law_due", "_law_name", "_law_site", "_law_number", "_law_undo", "_law_refused", "_law_over", "_law_turn", "_law_one"] "_law_right" (defScope s__law_right) a.f__law_right (.ref a.k__law_right) A outer s H E) (fun c d _ H => E c d H) := takes_of rfl rfl rfl rfl
  have hgd : (cxOf (L2.CX P w) P w K mg base ["_law_well_here", "_law_some", "_law_items", "_law_word", "_law_parse", "_law_told", "_law_python", "_law_at", "_law_error", "_law_due", "_law_name", "_law_site", "_law_number", "_law_undo", "_law_refused", "_law_over", "_law_turn", "_law_one"] "_law_right" (defScope s__law_right) a.f__law_right (.ref a.k__law_right) A outer s H E).A.guards = some [] := hgd
  exact (pdss_cons bl (pds_set 1 (pd_lst (pda_cons pd_int (pda_cons pd_int (pda_cons (pd_str (by decide)) (pda_cons (pd_str (by decide)) (pda_cons (pd_tup (pda_cons (pd_str (by decide)) (pda_cons pd_int pda_nil))) (pda_cons pd_non (pda_cons (pd_neg pd_int) (pda_cons (pd_op o_powW pd_int pd_int) (pda_cons (pd_lst (pda_cons pd_int pda_nil)) (pda_cons pd_nodict (pda_cons pd_bl (pda_cons (pd_tup pda_nil) (pda_cons (pd_str (by decide)) (pda_cons (pd_tup (pda_cons (pd_tup pda_nil) pda_nil)) pda_nil))))))))))))))) sc__law_right.nd) (pdss_cons bl (pds_setLc 2 [("_law_turn", 16)] rfl sc__law_right.nd (sw_true rfl rfl rfl (by decide +kernel)) (pdi_range1 (by rfl) T.b_range (pda_cons pd_int pda_nil)) (blkOk_by (N := ["_law_well_here", "_law_some", "_law_items", "_law_word", "_law_parse", "_law_told", "_law_python", "_law_at", "_law_error", "_law_due", "_law_name", "_law_site", "_law_number", "_law_undo", "_law_refused", "_law_over", "_law_turn", "_law_one"]) (sc := defScope s__law_right) (by decide +kernel)) (fun _ _ _ _ _ => (pg_name (i := 16) sc__law_right.nd rfl (by first | exact Or.inl rfl | exact Or.inr rfl))) ot_name (fun _ _ _ _ _ => pdts_nil) (fun _ _ _ _ _ => (pd_call (ok__law_choose T) (hr.mono (by decide)) takes0 (by rfl) T.g__law_choose T.F__law_choose.kp T.B__law_choose (pda_cons (pd_var 0) (pda_cons (pd_var 1) pda_nil))))) (pdss_cons bl (pds_set 3 (pd_call (ok__law_choose T) (hr.mono (by decide)) tk (by rfl) T.g__law_choose T.F__law_choose.kp T.B__law_choose (pda_cons (pd_var 0) (pda_cons (pd_lst (pda_cons (pd_str (by decide)) (pda_cons (pd_str (by decide)) (pda_cons (pd_str (by decide)) pda_nil)))) pda_nil))) sc__law_right.nd) (pdss_cons bl (pds_for bl (passes_of rfl) rfl (pdi_enum (by rfl) T.b_enumerate (pda_cons (pd_call (ok__law_messages T) (hr.mono (by decide)) tk (by rfl) T.g__law_messages T.F__law_messages.kp T.B__law_messages (pda_cons (pd_var 3) pda_nil)) pda_nil)) (pdg_seq 2 rfl (pdgs_cons bl (pdg_name 7 sc__law_right.nd) (pdgs_cons bl (pdg_name 8 sc__law_right.nd) pdgs_nil))) (pdss_wipe [] (pdss_cons bl (pds_set 9 (pd_op o_add (pd_op o_add (pd_lst (pda_cons pd_bl pda_nil)) (pd_lc [("_law_one", 17)] rfl sc__law_right.nd (pdi_range2 (by rfl) T.b_range (pda_cons pd_int (pda_cons pd_int pda_nil))) (blkOk_by (N := ["_law_well_here", "_law_some", "_law_items", "_law_word", "_law_parse", "_law_told", "_law_python", "_law_at", "_law_error", "_law_due", "_law_name", "_law_site", "_law_number", "_law_undo", "_law_refused", "_law_over", "_law_turn", "_law_one"]) (sc := defScope s__law_right) (by decide +kernel)) (fun _ _ _ _ _ => (pg_name (i := 17) sc__law_right.nd rfl (by first | exact Or.inl rfl | exact Or.inr rfl))) ot_name (fun _ _ _ _ _ => pdts_nil) (fun _ _ _ _ _ => (pd_cmp (o_eq hr) (pd_var 17) (pd_var 7) (nomark _))))) (pd_lst (pda_cons pd_bl (pda_cons pd_bl pda_nil)))) sc__law_right.nd) (pdss_one (pds_if (PDW.pt (pdw_or (pdt_cmp (o_ne hr) (pd_call (ok__law_kinds T) (hr.mono (by decide)) tk (by rfl) T.g__law_kinds T.F__law_kinds.kp T.B__law_kinds (pda_cons (pd_var 8) pda_nil)) (pd_var 9) (nomark _)) (pdw_or1 (pdt_cmp (o_ne hr) (pd_call (ok__law_others T) (hr.mono (by decide)) tk (by rfl) T.g__law_others T.F__law_others.kp T.B__law_others (pda_cons (pd_var 8) pda_nil)) (pd_op o_mulT (pd_lst (pda_cons pd_bl pda_nil)) pd_int) (nomark _))))) (pdss_one (pds_ret pd_bl)) pdss_nil))))) (pdss_cons bl (pds_set 4 (pd_xo3 T.x_ParseError (hr.mono (by decide)) (by rfl) (pd_ixx (hu_of hr) (pd_var 2) pd_int)) sc__law_right.nd) (pdss_cons bl (pds_if (PDW.pt (pdw_or (pdt_cmp (o_ne hr) (pd_call (ok__law_kinds T) (hr.mono (by decide)) tk (by rfl) T.g__law_kinds T.F__law_kinds.kp T.B__law_kinds (pda_cons (pd_var 4) pda_nil)) (pd_op o_add (pd_op o_add (pd_lst (pda_cons pd_bl pda_nil)) (pd_op o_mulT (pd_lst (pda_cons pd_bl pda_nil)) pd_int)) (pd_lst (pda_cons pd_bl (pda_cons pd_bl pda_nil)))) (nomark _)) (pdw_or1 (pdt_cmp (o_ne hr) (pd_call (ok__law_others T) (hr.mono (by decide)) tk (by rfl) T.g__law_others T.F__law_others.kp T.B__law_others (pda_cons (pd_var 4) pda_nil)) (pd_op o_mulT (pd_lst (pda_cons pd_bl pda_nil)) pd_int) (nomark _))))) (pdss_one (pds_ret pd_bl)) pdss_nil) (pdss_cons bl (pds_par3 10 11 12 sc__law_right.nd (pda_cons (pd_xo2 T.x_UnknownName (hr.mono (by decide)) (by rfl) (pd_ixx (hu_of hr) (pd_var 2) pd_int)) (pda_cons (pd_xo2 T.x_UnknownSite (hr.mono (by decide)) (by rfl) (pd_ixx (hu_of hr) (pd_var 2) pd_int)) (pda_cons (pd_xo2 T.x_InvalidNumber (hr.mono (by decide)) (by rfl) (pd_ixx (hu_of hr) (pd_var 2) pd_int)) pda_nil)))) (pdss_cons bl (pds_par3 13 14 15 sc__law_right.nd (pda_cons (pd_xo2 T.x_NothingToUndo (hr.mono (by decide)) (by rfl) (pd_ixx (hu_of hr) (pd_var 2) pd_int)) (pda_cons (pd_xo2 T.x_Refused (hr.mono (by decide)) (by rfl) (pd_ixx (hu_of hr) (pd_var 2) pd_int)) (pda_cons (pd_xo2 T.x_TooMany (hr.mono (by decide)) (by rfl) (pd_ixx (hu_of hr) (pd_var 2) pd_int)) pda_nil)))) (pdss_cons bl (pds_set 5 (pd_lst (pda_cons (pd_xof T.xr_ParseError (pd_var 4)) (pda_cons (pd_xof T.xr_UnknownName (pd_var 10)) (pda_cons (pd_xof T.xr_UnknownSite (pd_var 11)) (pda_cons (pd_xof T.xr_InvalidNumber (pd_var 12)) (pda_cons (pd_xof T.xr_NothingToUndo (pd_var 13)) (pda_cons (pd_xof T.xr_Refused (pd_var 14)) (pda_cons (pd_xof T.xr_TooMany (pd_var 15)) pda_nil)))))))) sc__law_right.nd) (pdss_cons bl (pds_if (pdt_cmp (o_ne hr) (pd_blt (c_repr0 T.sm hr.units hgd) (by rfl) T.b_repr bo_repr (pda_cons (pd_var 5) pda_nil)) (pd_blt (c_repr0 T.sm hr.units hgd) (by rfl) T.b_repr bo_repr (pda_cons (pd_var 2) pda_nil)) (nomark _)) (pdss_one (pds_ret pd_bl)) pdss_nil) (pdss_cons bl (pds_set 6 (pd_op o_add (pd_op o_mulT (pd_lst (pda_cons (pd_lst (pda_cons pd_bl (pda_cons pd_bl (pda_cons pd_bl (pda_cons pd_bl (pda_cons pd_bl pda_nil)))))) pda_nil)) pd_int) (pd_lst (pda_cons (pd_lst (pda_cons pd_bl (pda_cons pd_bl (pda_cons pd_bl (pda_cons pd_bl (pda_cons pd_bl pda_nil)))))) pda_nil))) sc__law_right.nd) (pdss_cons bl (pds_set 6 (pd_addO (pd_var 6) (pd_lst (pda_cons (pd_lst (pda_cons pd_bl (pda_cons pd_bl (pda_cons pd_bl (pda_cons pd_bl (pda_cons pd_bl pda_nil)))))) (pda_cons (pd_lst (pda_cons pd_bl (pda_cons pd_bl (pda_cons pd_bl (pda_cons pd_bl (pda_cons pd_bl pda_nil)))))) pda_nil)))) sc__law_right.nd) (pdss_cons bl (pds_expr (pd_bmS appendM_noE PySem.F.plainAttrs_list PySem.F.slot_list_append PySem.F.type_list_append m_append (pd_var 6) (pda_cons (pd_lst (pda_cons pd_bl (pda_cons pd_bl (pda_cons pd_bl (pda_cons pd_bl (pda_cons pd_bl pda_nil)))))) pda_nil))) (pdss_cons bl (pds_for bl (passes_of rfl) rfl (pdi_enum (by rfl) T.b_enumerate (pda_cons (pd_lst (pda_cons (pd_var 10) (pda_cons (pd_var 11) (pda_cons (pd_var 12) (pda_cons (pd_var 13) (pda_cons (pd_var 14) (pda_cons (pd_var 15) pda_nil))))))) pda_nil)) (pdg_seq 2 rfl (pdgs_cons bl (pdg_name 7 sc__law_right.nd) (pdgs_cons bl (pdg_name 8 sc__law_right.nd) pdgs_nil))) (pdss_wipe [] (pdss_cons bl (pds_set 9 (pd_op o_add (pd_lc [("_law_one", 17)] rfl sc__law_right.nd (pdi_range1 (by rfl) T.b_range (pda_cons pd_int pda_nil)) (blkOk_by (N := ["_law_well_here", "_law_some", "_law_items", "_law_word", "_law_parse", "_law_told", "_law_python", "_law_at", "_law_error", "_law_due", "_law_name", "_law_site", "_law_number", "_law_undo", "_law_refused", "_law_over", "_law_turn", "_law_one"]) (sc := defScope s__law_right) (by decide +kernel)) (fun _ _ _ _ _ => (pg_name (i := 17) sc__law_right.nd rfl (by first | exact Or.inl rfl | exact Or.inr rfl))) ot_name (fun _ _ _ _ _ => pdts_nil) (fun _ _ _ _ _ => (pd_cmp (o_eq hr) (pd_var 17) (pd_var 7) (nomark _)))) (pd_ixx (hu_of hr) (pd_var 6) (pd_var 7))) sc__law_right.nd) (pdss_one (pds_if (PDW.pt (pdw_or (pdt_cmp (o_ne hr) (pd_call (ok__law_others T) (hr.mono (by decide)) tk (by rfl) T.g__law_others T.F__law_others.kp T.B__law_others (pda_cons (pd_var 8) pda_nil)) (pd_var 9) (nomark _)) (pdw_or1 (pdt_cmp (o_ne hr) (pd_call (ok__law_kinds T) (hr.mono (by decide)) tk (by rfl) T.g__law_kinds T.F__law_kinds.kp T.B__law_kinds (pda_cons (pd_var 8) pda_nil)) (pd_op o_mulT (pd_lst (pda_cons pd_bl pda_nil)) pd_int) (nomark _))))) (pdss_one (pds_ret pd_bl)) pdss_nil))))) (pdss_one (pds_ret pd_bl))))))))))))))))
theorem ok__law_right (T : Txt P K mg a) (TB : TxB base mg a) : FnG P w K mg base (L2.CX P w) 3 a.f__law_right a.d__law_right ["_law_well_here"] (spM K 1 (F__law_right a.c)) :=
  def_okG T.F__law_right sc__law_right (fun A outer s H E hr hgd => tm__law_right T TB A outer s H E hr hgd) (le__law_right a.c)
theorem tm_law (T : Txt P K mg a) (TB : TxB base mg a) (A : Around) (outer : List Env) (s : Shared) (H : Hp) (E : XK) (hr : Room 3 (A.deeper (envOfC "law" (defScope s_law) s.heap.objs.size a.f_law (.ref a.k_law)))) (hgd : A.guards = some []) :
    PDSs (cxOf (L2.CX P w) P w K mg base ["_law_script", "_law_spot"] "law" (defScope s_law) a.f_law (.ref a.k_law) A outer s H E) (fun c d _ H => E c d H) (defBody s_law) (den_law a.c) := by
  have tk : Takes (cxOf (L2.CX P w) P w K mg base ["_law_script", "_law_spot"] "law" (defScope s_law) a.f_law (.ref a.k_law) A outer s H E) (fun c d _ H => E c d H) := takes_of rfl rfl rfl rfl
  have hgd : (cxOf (L2.CX P w) P w K mg base ["_law_script", "_law_spot"] "law" (defScope s_law) a.f_law (.ref a.k_law) A outer s H E).A.guards = some [] := hgd
  exact (pdss_cons bl (pds_for bl (passes_of rfl) rfl (pdi_range1 (by rfl) T.b_range (pda_cons (pd_blt (c_max2 rfl) (by rfl) T.b_max bo_max (pda_cons pd_int (pda_cons (pd_blt (c_min2 rfl) (by rfl) T.b_min bo_min (pda_cons pd_int (pda_cons (pd_blt c_lenD (by rfl) T.b_len bo_len (pda_cons (pd_var 0) pda_nil)) pda_nil))) pda_nil))) pda_nil)) (pdg_name 1 sc_law.nd) (pdss_wipe [1] (pdss_one (pds_if (pdt_not (pdt_val (pd_callG (ok__law_right T TB) (hr.mono (by decide)) hgd tk (by rfl) T.g__law_right T.F__law_right.kp T.B__law_right (pda_cons (pd_call (ok__law_well T) (hr.mono (by decide)) tk (by rfl) T.g__law_well T.F__law_well.kp T.B__law_well (pda_cons (pd_var 0) (pda_cons (pd_var 1) pda_nil))) pda_nil)))) (pdss_one (pds_ret pd_bl)) pdss_nil)))) (pdss_one (pds_ret pd_bl)))
theorem ok_law (T : Txt P K mg a) (TB : TxB base mg a) : FnG P w K mg base (L2.CX P w) 4 a.f_law a.d_law ["_law_script"] (spM K 1 (F_law a.c)) :=
  def_okG T.F_law sc_law (fun A outer s H E hr hgd => tm_law T TB A outer s H E hr hgd) (le_law a.c)
end
def htb (K : Frag) (x : Str) : Addr := 0
def hcs (K : Frag) : Cs := { all := hks K, xs := hxs K, tb := htb K, AnswerError := He.ga K "AnswerError", InvalidProgram := He.ga K "InvalidProgram", InvalidMode := He.ga K "InvalidMode", InvalidTable := He.ga K "InvalidTable", InvalidRun := He.ga K "InvalidRun", InvalidFact := He.ga K "InvalidFact", InvalidDerivation := He.ga K "InvalidDerivation", InvalidOperation := He.ga K "InvalidOperation", InvalidCommand := He.ga K "InvalidCommand", ParseError := He.ga K "ParseError", UnknownName := He.ga K "UnknownName", UnknownSite := He.ga K "UnknownSite", InvalidNumber := He.ga K "InvalidNumber", NothingToUndo := He.ga K "NothingToUndo", Refused := He.ga K "Refused", TooMany := He.ga K "TooMany" }
theorem hfact {K : Frag} (z : hB K = true) (i : Nat) {f : He.Fa} (h : hfa[i]? = some f) : f.ok K = true := by
  unfold hB at z
  simp only [Bool.and_eq_true] at z
  exact List.all_eq_true.mp z.1 f (List.mem_of_getElem? h)
theorem hext {K : Frag} (z : hB K = true) (i : Nat) {b : Bool} (h : (hex K)[i]? = some b) : b = true := by
  unfold hB at z
  simp only [Bool.and_eq_true] at z
  exact List.all_eq_true.mp z.2.2 b (List.mem_of_getElem? h)
theorem hkit {K : Frag} (z : hB K = true) : Kits K (hks K) := by
  unfold hB at z
  simp only [Bool.and_eq_true] at z
  exact kitsB_ok z.2.1
theorem hxt_AnswerError : XTxt pX "AnswerError.__init__" "message" xs_AnswerError := ⟨⟨_, rfl, rfl⟩, rfl, rfl, rfl, rfl, rfl, rfl, rfl, by decide +kernel, fun _ _ _ _ _ _ _ _ _ => rfl, by rfl, by decide, by decide⟩
theorem hxt_ParseError : XTxt pX "ParseError.__init__" "line" xs_ParseError := ⟨⟨_, rfl, rfl⟩, rfl, rfl, rfl, rfl, rfl, rfl, rfl, by decide +kernel, fun _ _ _ _ _ _ _ _ _ => rfl, by rfl, by decide, by decide⟩
theorem hxt_UnknownName : XTxt pX "UnknownName.__init__" "name" xs_UnknownName := ⟨⟨_, rfl, rfl⟩, rfl, rfl, rfl, rfl, rfl, rfl, rfl, by decide +kernel, fun _ _ _ _ _ _ _ _ _ => rfl, by rfl, by decide, by decide⟩
theorem hxt_UnknownSite : XTxt pX "UnknownSite.__init__" "site" xs_UnknownSite := ⟨⟨_, rfl, rfl⟩, rfl, rfl, rfl, rfl, rfl, rfl, rfl, by decide +kernel, fun _ _ _ _ _ _ _ _ _ => rfl, by rfl, by decide, by decide⟩
theorem hxt_InvalidNumber : XTxt pX "InvalidNumber.__init__" "value" xs_InvalidNumber := ⟨⟨_, rfl, rfl⟩, rfl, rfl, rfl, rfl, rfl, rfl, rfl, by decide +kernel, fun _ _ _ _ _ _ _ _ _ => rfl, by rfl, by decide, by decide⟩
theorem hxt_NothingToUndo : XTxt pX "NothingToUndo.__init__" "many" xs_NothingToUndo := ⟨⟨_, rfl, rfl⟩, rfl, rfl, rfl, rfl, rfl, rfl, rfl, by decide +kernel, fun _ _ _ _ _ _ _ _ _ => rfl, by rfl, by decide, by decide⟩
theorem hxt_Refused : XTxt pX "Refused.__init__" "name" xs_Refused := ⟨⟨_, rfl, rfl⟩, rfl, rfl, rfl, rfl, rfl, rfl, rfl, by decide +kernel, fun _ _ _ _ _ _ _ _ _ => rfl, by rfl, by decide, by decide⟩
theorem hxt_TooMany : XTxt pX "TooMany.__init__" "limit" xs_TooMany := ⟨⟨_, rfl, rfl⟩, rfl, rfl, rfl, rfl, rfl, rfl, rfl, by decide +kernel, fun _ _ _ _ _ _ _ _ _ => rfl, by rfl, by decide, by decide⟩
theorem hxb_AnswerError : Body1 "message" (defBody xs_AnswerError) := ⟨_, _, _, _, _, _, rfl, fun _ => ⟨_, rfl⟩⟩
theorem hxb_InvalidProgram : Body1 "message" (defBody xs_AnswerError) := ⟨_, _, _, _, _, _, rfl, fun _ => ⟨_, rfl⟩⟩
theorem hxb_InvalidMode : Body1 "message" (defBody xs_AnswerError) := ⟨_, _, _, _, _, _, rfl, fun _ => ⟨_, rfl⟩⟩
theorem hxb_InvalidTable : Body1 "message" (defBody xs_AnswerError) := ⟨_, _, _, _, _, _, rfl, fun _ => ⟨_, rfl⟩⟩
theorem hxb_InvalidRun : Body1 "message" (defBody xs_AnswerError) := ⟨_, _, _, _, _, _, rfl, fun _ => ⟨_, rfl⟩⟩
theorem hxb_InvalidFact : Body1 "message" (defBody xs_AnswerError) := ⟨_, _, _, _, _, _, rfl, fun _ => ⟨_, rfl⟩⟩
theorem hxb_InvalidDerivation : Body1 "message" (defBody xs_AnswerError) := ⟨_, _, _, _, _, _, rfl, fun _ => ⟨_, rfl⟩⟩
theorem hxb_InvalidOperation : Body1 "message" (defBody xs_AnswerError) := ⟨_, _, _, _, _, _, rfl, fun _ => ⟨_, rfl⟩⟩
theorem hxb_InvalidCommand : Body1 "message" (defBody xs_AnswerError) := ⟨_, _, _, _, _, _, rfl, fun _ => ⟨_, rfl⟩⟩
theorem hxb_ParseError : Body2 "line" "line" (defBody xs_ParseError) := ⟨_, _, _, _, _, _, _, _, _, _, rfl, fun _ => ⟨_, rfl⟩⟩
theorem hxb_UnknownName : Body2 "name" "name" (defBody xs_UnknownName) := ⟨_, _, _, _, _, _, _, _, _, _, rfl, fun _ => ⟨_, rfl⟩⟩
theorem hxb_UnknownSite : Body2 "site" "site" (defBody xs_UnknownSite) := ⟨_, _, _, _, _, _, _, _, _, _, rfl, fun _ => ⟨_, rfl⟩⟩
theorem hxb_InvalidNumber : Body2 "value" "value" (defBody xs_InvalidNumber) := ⟨_, _, _, _, _, _, _, _, _, _, rfl, fun _ => ⟨_, rfl⟩⟩
theorem hxb_NothingToUndo : Body2 "many" "many" (defBody xs_NothingToUndo) := ⟨_, _, _, _, _, _, _, _, _, _, rfl, fun _ => ⟨_, rfl⟩⟩
theorem hxb_Refused : Body2 "name" "name" (defBody xs_Refused) := ⟨_, _, _, _, _, _, _, _, _, _, rfl, fun _ => ⟨_, rfl⟩⟩
theorem hxb_TooMany : Body2 "limit" "limit" (defBody xs_TooMany) := ⟨_, _, _, _, _, _, _, _, _, _, rfl, fun _ => ⟨_, rfl⟩⟩
theorem htxt {K : Frag} {h : Heap} {mg : Str → Option Value} (G : h.Ns mainGlobals mg) (z : SaysT hq K h) : ∃ a : Ad, a.c = hcs K ∧ (True) ∧ Txt pX K mg a := by
  have KX := z.kin
  obtain ⟨d0, F0⟩ := z.p.fun_ 0 (d := hd0) (st := s__law_well) rfl rfl
  obtain ⟨d1, F1⟩ := z.p.fun_ 1 (d := hd1) (st := s__law_dip) rfl rfl
  obtain ⟨d2, F2⟩ := z.p.fun_ 2 (d := hd2) (st := s__law_choose) rfl rfl
  obtain ⟨d3, F3⟩ := z.p.fun_ 3 (d := hd3) (st := s__law_messages) rfl rfl
  obtain ⟨d4, F4⟩ := z.p.fun_ 4 (d := hd4) (st := s__law_kinds) rfl rfl
  obtain ⟨d5, F5⟩ := z.p.fun_ 5 (d := hd5) (st := s__law_others) rfl rfl
  obtain ⟨d6, F6⟩ := z.p.fun_ 6 (d := hd6) (st := s__law_right) rfl rfl
  obtain ⟨d7, F7⟩ := z.p.fun_ 7 (d := hd7) (st := s_law) rfl rfl
  have x0 := xdef_of (P := pX) (d := hx0) (z.xd 0 (d := hx0) rfl) (hext z.p.bool 0 rfl) rfl
  have x1 := xdef_of (P := pX) (d := hx1) (z.xd 1 (d := hx1) rfl) (hext z.p.bool 1 rfl) rfl
  have x2 := xdef_of (P := pX) (d := hx2) (z.xd 2 (d := hx2) rfl) (hext z.p.bool 2 rfl) rfl
  have x3 := xdef_of (P := pX) (d := hx3) (z.xd 3 (d := hx3) rfl) (hext z.p.bool 3 rfl) rfl
  have x4 := xdef_of (P := pX) (d := hx4) (z.xd 4 (d := hx4) rfl) (hext z.p.bool 4 rfl) rfl
  have x5 := xdef_of (P := pX) (d := hx5) (z.xd 5 (d := hx5) rfl) (hext z.p.bool 5 rfl) rfl
  have x6 := xdef_of (P := pX) (d := hx6) (z.xd 6 (d := hx6) rfl) (hext z.p.bool 6 rfl) rfl
  have x7 := xdef_of (P := pX) (d := hx7) (z.xd 7 (d := hx7) rfl) (hext z.p.bool 7 rfl) rfl
  refine ⟨{ c := hcs K, f__law_well := He.ga K "_law_well", d__law_well := d0, f__law_dip := He.ga K "_law_dip", d__law_dip := d1, f__law_choose := He.ga K "_law_choose", d__law_choose := d2, f__law_messages := He.ga K "_law_messages", d__law_messages := d3, f__law_kinds := He.ga K "_law_kinds", d__law_kinds := d4, f__law_others := He.ga K "_law_others", d__law_others := d5, f__law_right := He.ga K "_law_right", d__law_right := d6, f_law := He.ga K "law", d_law := d7, k__law_right := (tcA K (He.ga K "_law_right")).1, k_law := (tcA K (He.ga K "law")).1 }, rfl, trivial, ?_⟩
  exact
  { F__law_well := F0
    g__law_well := He.glo_ok KX G (hfact z.p.bool 0 (f := .glo "_law_well") rfl)
    B__law_well := F0.binds (ps := ["_law_script", "_law_spot"]) fun _ _ _ _ _ _ us hl => match us, hl with | [_, _], _ => rfl
    F__law_dip := F1
    g__law_dip := He.glo_ok KX G (hfact z.p.bool 1 (f := .glo "_law_dip") rfl)
    B__law_dip := F1.binds (ps := ["_law_well_here", "_law_size"]) fun _ _ _ _ _ _ us hl => match us, hl with | [_, _], _ => rfl
    F__law_choose := F2
    g__law_choose := He.glo_ok KX G (hfact z.p.bool 2 (f := .glo "_law_choose") rfl)
    B__law_choose := F2.binds (ps := ["_law_well_here", "_law_items"]) fun _ _ _ _ _ _ us hl => match us, hl with | [_, _], _ => rfl
    F__law_messages := F3
    g__law_messages := He.glo_ok KX G (hfact z.p.bool 3 (f := .glo "_law_messages") rfl)
    B__law_messages := F3.binds (ps := ["_law_word"]) fun _ _ _ _ _ _ us hl => match us, hl with | [_], _ => rfl
    F__law_kinds := F4
    g__law_kinds := He.glo_ok KX G (hfact z.p.bool 4 (f := .glo "_law_kinds") rfl)
    B__law_kinds := F4.binds (ps := ["_law_error"]) fun _ _ _ _ _ _ us hl => match us, hl with | [_], _ => rfl
    F__law_others := F5
    g__law_others := He.glo_ok KX G (hfact z.p.bool 5 (f := .glo "_law_others") rfl)
    B__law_others := F5.binds (ps := ["_law_error"]) fun _ _ _ _ _ _ us hl => match us, hl with | [_], _ => rfl
    F__law_right := tab_fun F6 (hext z.p.bool 62 rfl)
    g__law_right := He.glo_ok KX G (hfact z.p.bool 6 (f := .glo "_law_right") rfl)
    B__law_right := F6.binds (ps := ["_law_well_here"]) fun _ _ _ _ _ _ us hl => match us, hl with | [_], _ => rfl
    F_law := tab_fun F7 (hext z.p.bool 63 rfl)
    g_law := He.glo_ok KX G (hfact z.p.bool 7 (f := .glo "law") rfl)
    B_law := F7.binds (ps := ["_law_script"]) fun _ _ _ _ _ _ us hl => match us, hl with | [_], _ => rfl
    kits := hkit z.p.bool
    b_ArithmeticError := He.free_ok KX G (hfact z.p.bool 24 (f := .free "ArithmeticError") rfl)
    b_IndexError := He.free_ok KX G (hfact z.p.bool 25 (f := .free "IndexError") rfl)
    b_KeyError := He.free_ok KX G (hfact z.p.bool 26 (f := .free "KeyError") rfl)
    b_LookupError := He.free_ok KX G (hfact z.p.bool 27 (f := .free "LookupError") rfl)
    b_OverflowError := He.free_ok KX G (hfact z.p.bool 28 (f := .free "OverflowError") rfl)
    b_ValueError := He.free_ok KX G (hfact z.p.bool 29 (f := .free "ValueError") rfl)
    b_abs := He.free_ok KX G (hfact z.p.bool 30 (f := .free "abs") rfl)
    b_enumerate := He.free_ok KX G (hfact z.p.bool 31 (f := .free "enumerate") rfl)
    b_int := He.free_ok KX G (hfact z.p.bool 32 (f := .free "int") rfl)
    b_isinstance := He.free_ok KX G (hfact z.p.bool 33 (f := .free "isinstance") rfl)
    b_len := He.free_ok KX G (hfact z.p.bool 34 (f := .free "len") rfl)
    b_max := He.free_ok KX G (hfact z.p.bool 35 (f := .free "max") rfl)
    b_min := He.free_ok KX G (hfact z.p.bool 36 (f := .free "min") rfl)
    b_range := He.free_ok KX G (hfact z.p.bool 37 (f := .free "range") rfl)
    b_repr := He.free_ok KX G (hfact z.p.bool 38 (f := .free "repr") rfl)
    gx_AnswerError := He.glo_ok KX G (hfact z.p.bool 8 (f := .glo "AnswerError") rfl)
    in_AnswerError := by show He.ga K "AnswerError" ∈ hxs K; simp [hxs]
    x_AnswerError := ⟨_, _, _, _, _, _, _, _, _, _, x0, hxt_AnswerError, xcls_of (hext z.p.bool 8 rfl), if_VE, nf_VE, hxb_AnswerError, He.glo_ok KX G (hfact z.p.bool 8 (f := .glo "AnswerError") rfl)⟩
    gx_InvalidProgram := He.glo_ok KX G (hfact z.p.bool 9 (f := .glo "InvalidProgram") rfl)
    in_InvalidProgram := by show He.ga K "InvalidProgram" ∈ hxs K; simp [hxs]
    x_InvalidProgram := ⟨_, _, _, _, _, _, _, _, _, _, x0, hxt_AnswerError, xcls_of (hext z.p.bool 9 rfl), if_VE, nf_VE, hxb_InvalidProgram, He.glo_ok KX G (hfact z.p.bool 9 (f := .glo "InvalidProgram") rfl)⟩
    gx_InvalidMode := He.glo_ok KX G (hfact z.p.bool 10 (f := .glo "InvalidMode") rfl)
    in_InvalidMode := by show He.ga K "InvalidMode" ∈ hxs K; simp [hxs]
    x_InvalidMode := ⟨_, _, _, _, _, _, _, _, _, _, x0, hxt_AnswerError, xcls_of (hext z.p.bool 10 rfl), if_VE, nf_VE, hxb_InvalidMode, He.glo_ok KX G (hfact z.p.bool 10 (f := .glo "InvalidMode") rfl)⟩
    gx_InvalidTable := He.glo_ok KX G (hfact z.p.bool 11 (f := .glo "InvalidTable") rfl)
    in_InvalidTable := by show He.ga K "InvalidTable" ∈ hxs K; simp [hxs]
    x_InvalidTable := ⟨_, _, _, _, _, _, _, _, _, _, x0, hxt_AnswerError, xcls_of (hext z.p.bool 11 rfl), if_VE, nf_VE, hxb_InvalidTable, He.glo_ok KX G (hfact z.p.bool 11 (f := .glo "InvalidTable") rfl)⟩
    gx_InvalidRun := He.glo_ok KX G (hfact z.p.bool 12 (f := .glo "InvalidRun") rfl)
    in_InvalidRun := by show He.ga K "InvalidRun" ∈ hxs K; simp [hxs]
    x_InvalidRun := ⟨_, _, _, _, _, _, _, _, _, _, x0, hxt_AnswerError, xcls_of (hext z.p.bool 12 rfl), if_VE, nf_VE, hxb_InvalidRun, He.glo_ok KX G (hfact z.p.bool 12 (f := .glo "InvalidRun") rfl)⟩
    gx_InvalidFact := He.glo_ok KX G (hfact z.p.bool 13 (f := .glo "InvalidFact") rfl)
    in_InvalidFact := by show He.ga K "InvalidFact" ∈ hxs K; simp [hxs]
    x_InvalidFact := ⟨_, _, _, _, _, _, _, _, _, _, x0, hxt_AnswerError, xcls_of (hext z.p.bool 13 rfl), if_VE, nf_VE, hxb_InvalidFact, He.glo_ok KX G (hfact z.p.bool 13 (f := .glo "InvalidFact") rfl)⟩
    gx_InvalidDerivation := He.glo_ok KX G (hfact z.p.bool 14 (f := .glo "InvalidDerivation") rfl)
    in_InvalidDerivation := by show He.ga K "InvalidDerivation" ∈ hxs K; simp [hxs]
    x_InvalidDerivation := ⟨_, _, _, _, _, _, _, _, _, _, x0, hxt_AnswerError, xcls_of (hext z.p.bool 14 rfl), if_VE, nf_VE, hxb_InvalidDerivation, He.glo_ok KX G (hfact z.p.bool 14 (f := .glo "InvalidDerivation") rfl)⟩
    gx_InvalidOperation := He.glo_ok KX G (hfact z.p.bool 15 (f := .glo "InvalidOperation") rfl)
    in_InvalidOperation := by show He.ga K "InvalidOperation" ∈ hxs K; simp [hxs]
    x_InvalidOperation := ⟨_, _, _, _, _, _, _, _, _, _, x0, hxt_AnswerError, xcls_of (hext z.p.bool 15 rfl), if_VE, nf_VE, hxb_InvalidOperation, He.glo_ok KX G (hfact z.p.bool 15 (f := .glo "InvalidOperation") rfl)⟩
    gx_InvalidCommand := He.glo_ok KX G (hfact z.p.bool 16 (f := .glo "InvalidCommand") rfl)
    in_InvalidCommand := by show He.ga K "InvalidCommand" ∈ hxs K; simp [hxs]
    x_InvalidCommand := ⟨_, _, _, _, _, _, _, _, _, _, x0, hxt_AnswerError, xcls_of (hext z.p.bool 16 rfl), if_VE, nf_VE, hxb_InvalidCommand, He.glo_ok KX G (hfact z.p.bool 16 (f := .glo "InvalidCommand") rfl)⟩
    gx_ParseError := He.glo_ok KX G (hfact z.p.bool 17 (f := .glo "ParseError") rfl)
    in_ParseError := by show He.ga K "ParseError" ∈ hxs K; simp [hxs]
    x_ParseError := ⟨_, _, _, _, _, _, _, _, _, _, _, _, _, _, _, x1, hxt_ParseError, (x3_of (hext z.p.bool 17 rfl)).1, (x3_of (hext z.p.bool 17 rfl)).2.1, x0, hxt_AnswerError, (x3_of (hext z.p.bool 17 rfl)).2.2, hxb_AnswerError, if_VE, nf_VE, xfld_of (hext z.p.bool 18 rfl), hxb_ParseError, He.glo_ok KX G (hfact z.p.bool 17 (f := .glo "ParseError") rfl)⟩
    gx_UnknownName := He.glo_ok KX G (hfact z.p.bool 18 (f := .glo "UnknownName") rfl)
    in_UnknownName := by show He.ga K "UnknownName" ∈ hxs K; simp [hxs]
    x_UnknownName := ⟨_, _, _, _, _, _, _, _, _, _, x2, hxt_UnknownName, xcls_of (hext z.p.bool 19 rfl), if_KE, nf_KE, xfld_of (hext z.p.bool 20 rfl), hxb_UnknownName, He.glo_ok KX G (hfact z.p.bool 18 (f := .glo "UnknownName") rfl)⟩
    gx_UnknownSite := He.glo_ok KX G (hfact z.p.bool 19 (f := .glo "UnknownSite") rfl)
    in_UnknownSite := by show He.ga K "UnknownSite" ∈ hxs K; simp [hxs]
    x_UnknownSite := ⟨_, _, _, _, _, _, _, _, _, _, x3, hxt_UnknownSite, xcls_of (hext z.p.bool 21 rfl), if_KE, nf_KE, xfld_of (hext z.p.bool 22 rfl), hxb_UnknownSite, He.glo_ok KX G (hfact z.p.bool 19 (f := .glo "UnknownSite") rfl)⟩
    gx_InvalidNumber := He.glo_ok KX G (hfact z.p.bool 20 (f := .glo "InvalidNumber") rfl)
    in_InvalidNumber := by show He.ga K "InvalidNumber" ∈ hxs K; simp [hxs]
    x_InvalidNumber := ⟨_, _, _, _, _, _, _, _, _, _, x4, hxt_InvalidNumber, xcls_of (hext z.p.bool 23 rfl), if_IE, nf_IE, xfld_of (hext z.p.bool 24 rfl), hxb_InvalidNumber, He.glo_ok KX G (hfact z.p.bool 20 (f := .glo "InvalidNumber") rfl)⟩
    gx_NothingToUndo := He.glo_ok KX G (hfact z.p.bool 21 (f := .glo "NothingToUndo") rfl)
    in_NothingToUndo := by show He.ga K "NothingToUndo" ∈ hxs K; simp [hxs]
    x_NothingToUndo := ⟨_, _, _, _, _, _, _, _, _, _, x5, hxt_NothingToUndo, xcls_of (hext z.p.bool 25 rfl), if_LE, nf_LE, xfld_of (hext z.p.bool 26 rfl), hxb_NothingToUndo, He.glo_ok KX G (hfact z.p.bool 21 (f := .glo "NothingToUndo") rfl)⟩
    gx_Refused := He.glo_ok KX G (hfact z.p.bool 22 (f := .glo "Refused") rfl)
    in_Refused := by show He.ga K "Refused" ∈ hxs K; simp [hxs]
    x_Refused := ⟨_, _, _, _, _, _, _, _, _, _, x6, hxt_Refused, xcls_of (hext z.p.bool 27 rfl), if_AE, nf_AE, xfld_of (hext z.p.bool 28 rfl), hxb_Refused, He.glo_ok KX G (hfact z.p.bool 22 (f := .glo "Refused") rfl)⟩
    gx_TooMany := He.glo_ok KX G (hfact z.p.bool 23 (f := .glo "TooMany") rfl)
    in_TooMany := by show He.ga K "TooMany" ∈ hxs K; simp [hxs]
    x_TooMany := ⟨_, _, _, _, _, _, _, _, _, _, x7, hxt_TooMany, xcls_of (hext z.p.bool 29 rfl), if_OE, nf_OE, xfld_of (hext z.p.bool 30 rfl), hxb_TooMany, He.glo_ok KX G (hfact z.p.bool 23 (f := .glo "TooMany") rfl)⟩
    xr_InvalidNumber := xrd_of (hext z.p.bool 31 rfl)
    xr_NothingToUndo := xrd_of (hext z.p.bool 32 rfl)
    xr_ParseError := xrd_of (hext z.p.bool 33 rfl)
    xr_Refused := xrd_of (hext z.p.bool 34 rfl)
    xr_TooMany := xrd_of (hext z.p.bool 35 rfl)
    xr_UnknownName := xrd_of (hext z.p.bool 36 rfl)
    xr_UnknownSite := xrd_of (hext z.p.bool 37 rfl)
    sm := Option.isSome_iff_exists.mp (hext z.p.bool 39 rfl)
    xk_AnswerError := xk_of (hext z.p.bool 40 rfl)
    xk_ArithmeticError := xk_of (hext z.p.bool 41 rfl)
    xk_IndexError := xk_of (hext z.p.bool 42 rfl)
    xk_InvalidCommand := xk_of (hext z.p.bool 43 rfl)
    xk_InvalidDerivation := xk_of (hext z.p.bool 44 rfl)
    xk_InvalidFact := xk_of (hext z.p.bool 45 rfl)
    xk_InvalidMode := xk_of (hext z.p.bool 46 rfl)
    xk_InvalidNumber := xk_of (hext z.p.bool 47 rfl)
    xk_InvalidOperation := xk_of (hext z.p.bool 48 rfl)
    xk_InvalidProgram := xk_of (hext z.p.bool 49 rfl)
    xk_InvalidRun := xk_of (hext z.p.bool 50 rfl)
    xk_InvalidTable := xk_of (hext z.p.bool 51 rfl)
    xk_KeyError := xk_of (hext z.p.bool 52 rfl)
    xk_LookupError := xk_of (hext z.p.bool 53 rfl)
    xk_NothingToUndo := xk_of (hext z.p.bool 54 rfl)
    xk_OverflowError := xk_of (hext z.p.bool 55 rfl)
    xk_ParseError := xk_of (hext z.p.bool 56 rfl)
    xk_Refused := xk_of (hext z.p.bool 57 rfl)
    xk_TooMany := xk_of (hext z.p.bool 58 rfl)
    xk_UnknownName := xk_of (hext z.p.bool 59 rfl)
    xk_UnknownSite := xk_of (hext z.p.bool 60 rfl)
    xk_ValueError := xk_of (hext z.p.bool 61 rfl) }
def hL (K : Frag) : List (Addr × Str) := []
def hcl (K : Frag) : List (Addr × Addr) := []
theorem hokx {K : Frag} {h : Heap} (z : SaysT hq K h) : K00Ok (hcs K) := by
  have nd : (hxs K).Nodup := of_decide_eq_true (hext z.p.bool 38 rfl)
  exact ⟨nd⟩
theorem hent {K : Frag} {h : Heap} (z : SaysT hq K h) {ns : List Int} (hl : ns.length ≤ 63) : F_law (hcs K) [.fl (ns.map D.int)] (tbS (hL K)) = .ok (.bl true) (tbS (hL K)) := ex_law _ (hokx z) (S := tbS (hL K)) (fun n o e => by unfold tbS hL at e; simp at e) (Nat.le_trans hl (by decide))
theorem hlaw {w : World} {h : Heap} {mg : Str → Option Value} {fa : Addr} {K : Frag} (z : SaysT hq K h) (G : h.Ns mainGlobals mg) (hfa : mg ("law" : Str) = some (.ref fa)) : LawG (PySem.Challenge.rw_answeredabove_k00_errors_and_what_they_k) w (L2.CX pX w) 4 63 "_law_script" mg fa h := by
  obtain ⟨a, e, ek, T⟩ := htxt G z
  have e2 := hfa.symm.trans T.g_law
  cases e2
  have T2 := T.F_law
  refine ⟨K, a.d_law, hcl K, spM K 1 (F_law (hcs K)), z.kin, fun p hp => ?_, fun p hp => ?_, fun p hp => ?_, fun s v => ?_, fun H b ns hl h1 h2 h3 => ?_, fun base _ _ hT => ?_⟩
  · unfold hcl at hp; exact nomatch hp
  · unfold hcl at hp; exact nomatch hp
  · unfold hcl at hp; exact nomatch hp
  · obtain ⟨oc, od, kV, doc, pm, an, ct, osl, e3, _, _⟩ := T2.ex
    rw [e3]
    exact .of_eq rfl
  · refine law_entryG (L := hL K) hl (fun p hp => ?_) (by simp [hL]) h3 (hent z hl)
    unfold hL at hp; exact nomatch hp
  · rw [← e]
    exact ok_law T ⟨trivial⟩
end PD
open PySem PySem.W PySem.Calls PyProof.Rows
set_option maxRecDepth 100000 in
set_option maxHeartbeats 0 in
theorem PySem.Challenge.cw_answeredabove_k00_errors_and_what_they_k_holds : PySem.Challenge.rw_answeredabove_k00_errors_and_what_they_k.Holds := by
  w_on; o_law
  refine HandSHeadRun.head_any (r := OpenLaw.row PySem.Challenge.rw_answeredabove_k00_errors_and_what_they_k) (q := view (OpenLaw.row PySem.Challenge.rw_answeredabove_k00_errors_and_what_they_k).prog [25]) (H := PD.hH) (ob := PD.hob) (M := 60000) (loose := PD.hloose) (d := HandSHeadRun.topDef (OpenLaw.row PySem.Challenge.rw_answeredabove_k00_errors_and_what_they_k).prog 25) (kwd := []) PD.hob_eq
    (by kernel_rfl) (fun s => by kernel_rfl) PD.hrun (by kernel_rfl) (by kernel_rfl) (by kernel_rfl) (by rfl) (by first | assumption | decide +kernel) (by decide +kernel) ⟨rfl, rfl, rfl, rfl, rfl, by decide +kernel⟩ ?hw ?hc
  case hw => w_witness2
  case hc =>
    refine PD.walkG (l := PySem.Challenge.rw_answeredabove_k00_errors_and_what_they_k) (n := 63) (k := 4) (x := "_law_script") (CX := fun w => L2.CX (PySem.Challenge.rw_answeredabove_k00_errors_and_what_they_k).prog w) rfl (by decide) (by kernel_rfl) ⟨rfl, by decide, by decide⟩ ?F PD.noFall
    intro w mg fa h Y G hmg0
    obtain ⟨K, z⟩ := Y
    have hmg : mg ("law" : PySem.Str) = some (.ref fa) := by
      have e : (HandSHeadRun.topDef (OpenLaw.row PySem.Challenge.rw_answeredabove_k00_errors_and_what_they_k).prog 25).name = ("law" : PySem.Str) := by kernel_rfl
      rw [← e]
      exact hmg0
    exact PD.hlaw z G hmg
#print axioms PySem.Challenge.cw_answeredabove_k00_errors_and_what_they_k_holds
