import PyProof.Rows.All
import Wide.All
import OpenK.AllK
import Wide.FinOn
import KE.KStateDown
import HandS.ForMost
import HandS.ForExc
import HandS.Flow
import HandS.IsInst
import HandS.TupAny
import HandS.TupMul
import HandS.Conv
import HandS.Zip
import HandS.Wide
import HandS.More
import HandS.Defaults
import HandS.Head0
import HandS.Head1
import HandS.Head2
import HandS.HeadEnd
import HandS.HeadHook1
import HandS.HeadHook2
import HandS.Star
import HandS.Deep
import HandS.RevRange
import KE.SortData
import KE.LtData
import HandS.Style
import HandS.ExcOwn
import HandS.CallSlots
import PySem.Challenge.RW_judgedrows_k56_main_all_quotas_that_do
set_option Elab.async false
set_option linter.all false
set_option maxRecDepth 100000
set_option maxHeartbeats 1000000
/-! PV: values told as data (PyData), a frozen part F of the tracked heap H; owned lists stand outside of F. -/
namespace L2.PV
open PySem PySem.Spec PyProof.Rows

abbrev Dat := PyData
/-- a def as a datum -/
def fnD (x : Str) : Dat := .dict [(.str x, .none)]
/-- a list that stands locked (the script): it is read alone -/
def scD (ds : List Dat) : Dat := .dict [(.none, .list ds)]

/-! ### a value reads as a datum, over frozen objects -/
mutual
inductive Rp (K : PySem.W.Frag) (G : Str → Option Addr) (F : Hp) : V → Dat → Prop
  | non : Rp K G F .non .none
  | bl (b : Bool) : Rp K G F (.bl b) (.bool b)
  | int (i : Int) : Rp K G F (.int i) (.int i)
  | str (x : Str) : Rp K G F (.str x) (.str x)
  | lst {a : Addr} {xs : List V} {ds : List Dat} : F a = some (.lst xs) → RpA K G F xs ds → Rp K G F (.ref a) (.list ds)
  | tup {a : Addr} {xs : List V} {ds : List Dat} : SqT K F a xs → RpA K G F xs ds → Rp K G F (.ref a) (.tuple ds)
  | fn {x : Str} {f : Addr} : G x = some f → Rp K G F (.ref f) (fnD x)
  | scr {a : Addr} {xs : List V} {ds : List Dat} : SqL K F a xs → RpA K G F xs ds → Rp K G F (.ref a) (scD ds)
inductive RpA (K : PySem.W.Frag) (G : Str → Option Addr) (F : Hp) : List V → List Dat → Prop
  | nil : RpA K G F [] []
  | cons {v : V} {vs : List V} {d : Dat} {ds : List Dat} : Rp K G F v d → RpA K G F vs ds → RpA K G F (v :: vs) (d :: ds)
end

section
variable {K : PySem.W.Frag} {G : Str → Option Addr} {F F' H : Hp}

theorem sqt_mono {a : Addr} {xs : List V} (e : Same F F') (h : SqT K F a xs) : SqT K F' a xs := by
  rcases h with (h | ⟨o, h⟩) | h
  · exact .inl (.inl (e _ _ h))
  · exact .inl (.inr ⟨o, e _ _ h⟩)
  · exact .inr h

mutual
theorem Rp.mono (e : Same F F') : ∀ {v : V} {d : Dat}, Rp K G F v d → Rp K G F' v d
  | _, _, .non => .non
  | _, _, .bl b => .bl b
  | _, _, .int i => .int i
  | _, _, .str x => .str x
  | _, _, .lst h r => .lst (e _ _ h) (RpA.mono e r)
  | _, _, .scr h r => .scr (e.seq h) (RpA.mono e r)
  | _, _, .tup h r => .tup (sqt_mono e h) (RpA.mono e r)
  | _, _, .fn h => .fn h
theorem RpA.mono (e : Same F F') : ∀ {vs : List V} {ds : List Dat}, RpA K G F vs ds → RpA K G F' vs ds
  | _, _, .nil => .nil
  | _, _, .cons h r => .cons (Rp.mono e h) (RpA.mono e r)
end

theorem RpA.length : ∀ {vs : List V} {ds : List Dat}, RpA K G F vs ds → vs.length = ds.length
  | _, _, .nil => rfl
  | _, _, .cons _ r => congrArg (· + 1) (RpA.length r)
theorem RpA.append : ∀ {vs ws : List V} {ds es : List Dat}, RpA K G F vs ds → RpA K G F ws es → RpA K G F (vs ++ ws) (ds ++ es)
  | _, _, _, _, .nil, s => s
  | _, _, _, _, .cons h r, s => .cons h (RpA.append r s)
theorem RpA.one {v : V} {d : Dat} (h : Rp K G F v d) : RpA K G F [v] [d] := .cons h .nil
theorem RpA.get : ∀ {vs : List V} {ds : List Dat} {i : Nat} {d : Dat}, RpA K G F vs ds → ds[i]? = some d → ∃ v, vs[i]? = some v ∧ Rp K G F v d
  | _, _, _, _, .nil, e => by simp at e
  | _, _, 0, _, .cons h _, e => by simp at e; subst e; exact ⟨_, rfl, h⟩
  | _, _, i + 1, d, .cons _ r, e => by
    obtain ⟨u, h1, h2⟩ := RpA.get (i := i) (d := d) r (by simpa using e)
    exact ⟨u, by simpa using h1, h2⟩
theorem RpA.getV : ∀ {vs : List V} {ds : List Dat} {i : Nat} {v : V}, RpA K G F vs ds → vs[i]? = some v → ∃ d, ds[i]? = some d ∧ Rp K G F v d
  | _, _, _, _, .nil, e => by simp at e
  | _, _, 0, _, .cons h _, e => by simp at e; subst e; exact ⟨_, rfl, h⟩
  | _, _, i + 1, d, .cons _ r, e => by
    obtain ⟨u, h1, h2⟩ := RpA.getV (i := i) (v := d) r (by simpa using e)
    exact ⟨u, by simpa using h1, h2⟩
theorem RpA.drop : ∀ {vs : List V} {ds : List Dat} (n : Nat), RpA K G F vs ds → RpA K G F (vs.drop n) (ds.drop n)
  | _, _, 0, r => r
  | _, _, _ + 1, .nil => .nil
  | _, _, n + 1, .cons _ r => RpA.drop n r
theorem RpA.take : ∀ {vs : List V} {ds : List Dat} (n : Nat), RpA K G F vs ds → RpA K G F (vs.take n) (ds.take n)
  | _, _, 0, _ => .nil
  | _, _, _ + 1, .nil => .nil
  | _, _, n + 1, .cons h r => .cons h (RpA.take n r)
theorem RpA.set : ∀ {vs : List V} {ds : List Dat} (n : Nat) {v : V} {d : Dat}, Rp K G F v d → RpA K G F vs ds → RpA K G F (vs.set n v) (ds.set n d)
  | _, _, _, _, _, _, .nil => .nil
  | _, _, 0, _, _, q, .cons _ r => .cons q r
  | _, _, n + 1, _, _, q, .cons h r => .cons h (RpA.set n q r)
theorem RpA.erase : ∀ {vs : List V} {ds : List Dat} (n : Nat), RpA K G F vs ds → RpA K G F (vs.eraseIdx n) (ds.eraseIdx n)
  | _, _, _, .nil => .nil
  | _, _, 0, .cons _ r => r
  | _, _, n + 1, .cons h r => .cons h (RpA.erase n r)
theorem RpA.reverse {vs : List V} {ds : List Dat} (h : RpA K G F vs ds) : RpA K G F vs.reverse ds.reverse := by
  induction vs generalizing ds with
  | nil => cases h; exact .nil
  | cons v vs ih =>
    cases h with
    | cons h r => rw [List.reverse_cons, List.reverse_cons]; exact (ih r).append (.one h)

/-! ### plain data: no def in it -/
mutual
def plain : Dat → Bool
  | .none => true
  | .bool _ => true
  | .int _ => true
  | .str _ => true
  | .list ds => plains ds
  | .tuple ds => plains ds
  | .dict _ => false
def plains : List Dat → Bool
  | [] => true
  | d :: ds => plain d && plains ds
end
mutual
theorem Rp.dp (s : Same F H) : ∀ (d : Dat) {v : V}, Rp K G F v d → plain d = true → Dp K H v d
  | .none, _, h, _ => by cases h; exact .non
  | .bool b, _, h, _ => by cases h; exact .bl b
  | .int b, _, h, _ => by cases h; exact .int b
  | .str b, _, h, _ => by cases h; exact .str b
  | .list ds, _, h, p => by
    cases h with
    | lst a r => exact .lst (SqL.of (s _ _ a)) (RpA.dp s ds r (by simpa [plain] using p))
  | .tuple ds, _, h, p => by
    cases h with
    | tup a r => exact .tup (sqt_mono s a) (RpA.dp s ds r (by simpa [plain] using p))
  | .dict ds, _, h, p => by simp [plain] at p
theorem RpA.dp (s : Same F H) : ∀ (ds : List Dat) {vs : List V}, RpA K G F vs ds → plains ds = true → DpAll K H vs ds
  | [], _, h, _ => by cases h; exact .nil
  | d :: ds, _, h, p => by
    cases h with
    | cons a r =>
      simp only [plains, Bool.and_eq_true] at p
      exact .cons (Rp.dp s d a p.1) (RpA.dp s ds r p.2)
end
end

/-! ### outcomes -/
abbrev Env := List (Option Dat)
/-- an outcome of a value: none of it (stuck), a value, an error -/
inductive R (α : Type) where
  | stuck
  | ok (a : α) (ρ : Env)
  | exc (x : Dat) (ρ : Env)
abbrev M (α : Type) := Env → R α
/-- a statement's outcome -/
inductive RS where
  | stuck
  | nx (ρ : Env) | bk (ρ : Env) | ct (ρ : Env)
  | rt (d : Dat) (ρ : Env)
  | exc (x : Dat) (ρ : Env)
abbrev MS := Env → RS
/-- a def's outcome: the value (or error), and what is then in the list that it changes -/
inductive RF where
  | stuck
  | ok (d : Dat) (io : Dat)
  | exc (x : Dat) (io : Dat)
abbrev FnSem := List Dat → RF

def M.bind {α β : Type} (g : M α) (k : α → M β) : M β := fun ρ => match g ρ with
  | .stuck => .stuck
  | .ok a ρ' => k a ρ'
  | .exc x ρ' => .exc x ρ'
def M.pure {α : Type} (a : α) : M α := fun ρ => .ok a ρ
def M.lift {α : Type} (o : Option α) : M α := fun ρ => match o with
  | some a => .ok a ρ
  | none => .stuck

/-- what a name holds: data that are frozen (p), or (m) a list of its own; io: the list of the caller's that the def changes -/
inductive Kd where | p | m | io
  deriving DecidableEq, Repr

/-- what stays the same over a def's whole body -/
structure Stc where
  K : PySem.W.Frag
  G : Str → Option Addr
  ks : List Kd
  ex : Dat → Value → Option Addr → Hp → Prop

/-- where a def's body began: the heap, its frozen part, the list that it changes -/
structure LC where
  S : Stc
  H0 : Hp
  F0 : Hp
  io : Option (Nat × Addr)

def notIo (L : LC) (a : Addr) : Prop := ∀ (i : Nat) (b : Addr), L.io = some (i, b) → a ≠ b

/-- the list of a name of its own -/
def OwL (L : LC) (H F : Hp) (a : Addr) (ds : List Dat) : Prop := ∃ xs, H a = some (.lst xs) ∧ F a = none ∧ RpA L.S.K L.S.G F xs ds

/-- a live list at slot i -/
def LiveAt (L : LC) (σ : St) (ρ : Env) (i : Nat) (a : Addr) : Prop :=
  (L.S.ks[i]? = some Kd.m ∨ L.S.ks[i]? = some Kd.io) ∧ (∃ ds, ρ[i]? = some (some (.list ds))) ∧ σ[i]? = some (some (.ref a))

structure Rel (L : LC) (σ : St) (H F : Hp) (ρ : Env) : Prop where
  sub : Same F H
  old : ∀ a o, L.H0 a = some o → notIo L a → H a = some o
  fold : Same L.F0 F
  fnew : ∀ a, F a ≠ none → L.H0 a ≠ none → L.F0 a ≠ none
  len : ρ.length = σ.length
  pl : ∀ (i : Nat) (d : Dat), L.S.ks[i]? = some Kd.p → ρ[i]? = some (some d) → ∃ v, σ[i]? = some (some v) ∧ Rp L.S.K L.S.G F v d
  mu : ∀ (i : Nat) (d : Dat), L.S.ks[i]? = some Kd.m → ρ[i]? = some (some d) → ∃ v, σ[i]? = some (some v) ∧ ((∃ ds a, d = .list ds ∧ v = .ref a ∧ OwL L H F a ds ∧ L.H0 a = none) ∨ ((∀ ds, d ≠ .list ds) ∧ Rp L.S.K L.S.G F v d))
  io : ∀ (i : Nat) (a : Addr), L.io = some (i, a) → L.S.ks[i]? = some Kd.io ∧ L.H0 a ≠ none ∧ L.F0 a = none ∧ σ[i]? = some (some (.ref a)) ∧ ∃ ds, ρ[i]? = some (some (.list ds)) ∧ OwL L H F a ds
  ioOnly : ∀ (i : Nat), L.S.ks[i]? = some Kd.io → ∃ a, L.io = some (i, a)
  dis : ∀ (i j : Nat) (a : Addr), LiveAt L σ ρ i a → LiveAt L σ ρ j a → i = j

section
variable {L : LC} {σ σ' : St} {H H' F F' : Hp} {ρ ρ' : Env}

theorem upd_same' {H : Hp} {p : Addr} {o : HO} (h : H p = none) : Same H (upd H p o) := fun b x e => by
  rw [upd_ne (ne_of_none e h)]
  exact e
theorem Rel.free (r : Rel L σ H F ρ) {p : Addr} (h : H p = none) : F p = none := r.sub.free h
theorem Rel.io_live (r : Rel L σ H F ρ) {i : Nat} {b : Addr} (e : L.io = some (i, b)) : H b ≠ none := by
  obtain ⟨_, _, _, _, ds, _, xs, h, _⟩ := r.io i b e
  rw [h]; exact fun z => nomatch z
theorem Rel.free0 (r : Rel L σ H F ρ) {p : Addr} (h : H p = none) : L.H0 p = none := by
  cases e : L.H0 p with
  | none => rfl
  | some o =>
    have n : notIo L p := fun i b q z => r.io_live q (by rw [← z]; exact h)
    have := r.old p o e n
    rw [h] at this; cases this
/-- a live list stands in the heap, outside of the frozen part -/
theorem Rel.live (r : Rel L σ H F ρ) {i : Nat} {a : Addr} (h : LiveAt L σ ρ i a) : ∃ ds, ρ[i]? = some (some (.list ds)) ∧ OwL L H F a ds := by
  obtain ⟨hk, ⟨ds, hd⟩, hs⟩ := h
  rcases hk with hk | hk
  · obtain ⟨v, e, h⟩ := r.mu i _ hk hd
    rw [hs] at e; cases e
    rcases h with ⟨ds', a', e1, e2, ow, _⟩ | ⟨n, _⟩
    · cases e1; cases e2; exact ⟨ds, hd, ow⟩
    · exact absurd rfl (n ds)
  · obtain ⟨b, e⟩ := r.ioOnly i hk
    obtain ⟨_, _, _, e2, ds', e3, ow⟩ := r.io i b e
    rw [hs] at e2; cases e2
    exact ⟨ds', e3, ow⟩
theorem Rel.live_ne (r : Rel L σ H F ρ) {i : Nat} {a p : Addr} (h : LiveAt L σ ρ i a) (n : H p = none) : a ≠ p := by
  obtain ⟨ds, _, xs, e, _⟩ := r.live h
  exact ne_of_none e n

/-- heap and frozen part grow, all live lists stand as they stood -/
theorem Rel.grow (r : Rel L σ H F ρ) (sub : Same F' H') (sH : ∀ a o, H a = some o → H' a = some o) (sF : Same F F') (nw : ∀ a, F' a ≠ none → H a ≠ none → F a ≠ none) : Rel L σ H' F' ρ := by
  have nF : ∀ {a : Addr}, F a = none → H a ≠ none → F' a = none := fun {a} h1 h2 => by
    cases e : F' a with
    | none => rfl
    | some o => exact absurd h1 (nw a (by rw [e]; exact fun z => nomatch z) h2)
  have ow : ∀ {a : Addr} {ds : List Dat}, OwL L H F a ds → OwL L H' F' a ds := fun {a ds} ⟨xs, e, n, q⟩ =>
    ⟨xs, sH _ _ e, nF n (by rw [e]; exact fun z => nomatch z), q.mono sF⟩
  refine ⟨sub, fun a o e n => sH _ _ (r.old a o e n), r.fold.trans sF, fun a h1 h2 => ?_, r.len, fun i d hk hd => ?_, fun i d hk hd => ?_, fun i a e => ?_, r.ioOnly, r.dis⟩
  · by_cases n : notIo L a
    · have : H a ≠ none := by
        cases e : L.H0 a with
        | none => exact absurd e h2
        | some o => rw [r.old a o e n]; exact fun z => nomatch z
      exact r.fnew a (nw a h1 this) h2
    · have : ∃ i, L.io = some (i, a) := by
        by_cases hc : ∃ i, L.io = some (i, a)
        · exact hc
        · exact absurd (fun i b q z => hc ⟨i, by rw [z]; exact q⟩) n
      obtain ⟨i, e⟩ := this
      exact r.fnew a (nw a h1 (r.io_live e)) h2
  · obtain ⟨v, e, q⟩ := r.pl i d hk hd
    exact ⟨v, e, q.mono sF⟩
  · obtain ⟨v, e, q⟩ := r.mu i d hk hd
    refine ⟨v, e, ?_⟩
    rcases q with ⟨ds, a, e1, e2, o, z⟩ | ⟨n, q⟩
    · exact .inl ⟨ds, a, e1, e2, ow o, z⟩
    · exact .inr ⟨n, q.mono sF⟩
  · obtain ⟨k, h0, f0, e1, ds, e2, o⟩ := r.io i a e
    exact ⟨k, h0, f0, e1, ds, e2, ow o⟩

/-- a new object, frozen -/
theorem Rel.laid (r : Rel L σ H F ρ) {p : Addr} {o : HO} (h : H p = none) : Rel L σ (upd H p o) (upd F p o) ρ := by
  refine r.grow (fun a x e => ?_) (upd_same' h) (upd_same' (r.free h)) fun a h1 h2 => ?_
  · by_cases z : a = p
    · subst z; rw [upd_same] at e ⊢; exact e
    · rw [upd_ne z] at e ⊢; exact r.sub _ _ e
  · by_cases z : a = p
    · subst z; exact absurd h h2
    · rw [upd_ne z] at h1; exact h1
/-- a new object, not frozen -/
theorem Rel.newH (r : Rel L σ H F ρ) {p : Addr} {o : HO} (h : H p = none) : Rel L σ (upd H p o) F ρ :=
  r.grow (fun a x e => by rw [upd_ne (ne_of_none (r.sub _ _ e) h)]; exact r.sub _ _ e) (upd_same' h) (Same.refl _) fun a h1 _ => h1
/-- an object is frozen that no live list is -/
theorem Rel.freeze (r : Rel L σ H F ρ) {p : Addr} {o : HO} (h : H p = some o) (h0 : L.H0 p = none) (hf : F p = none) (hn : ∀ i, ¬ LiveAt L σ ρ i p) : Rel L σ H (upd F p o) ρ := by
  have sF : Same F (upd F p o) := upd_same' hf
  have ow : ∀ {i : Nat} {a : Addr} {ds : List Dat}, LiveAt L σ ρ i a → OwL L H F a ds → OwL L H (upd F p o) a ds := fun {i a ds} lv ⟨xs, e, n, q⟩ => by
    refine ⟨xs, e, ?_, q.mono sF⟩
    have : a ≠ p := fun z => hn i (z ▸ lv)
    rw [upd_ne this]; exact n
  refine ⟨fun a x e => ?_, r.old, r.fold.trans sF, fun a h1 h2 => ?_, r.len, fun i d hk hd => ?_, fun i d hk hd => ?_, fun i a e => ?_, r.ioOnly, r.dis⟩
  · by_cases z : a = p
    · subst z; rw [upd_same] at e; rw [h]; exact e
    · rw [upd_ne z] at e; exact r.sub _ _ e
  · by_cases z : a = p
    · subst z; exact absurd h0 h2
    · rw [upd_ne z] at h1; exact r.fnew a h1 h2
  · obtain ⟨v, e, q⟩ := r.pl i d hk hd
    exact ⟨v, e, q.mono sF⟩
  · obtain ⟨v, e, q⟩ := r.mu i d hk hd
    refine ⟨v, e, ?_⟩
    rcases q with ⟨ds, a, e1, e2, ow', z⟩ | ⟨n, q⟩
    · subst e1; subst e2
      exact .inl ⟨ds, a, rfl, rfl, ow (i := i) ⟨.inl hk, ⟨ds, hd⟩, e⟩ ow', z⟩
    · exact .inr ⟨n, q.mono sF⟩
  · obtain ⟨k, h0, f0, e1, ds, e2, o⟩ := r.io i a e
    exact ⟨k, h0, f0, e1, ds, e2, ow (i := i) ⟨.inr k, ⟨ds, e2⟩, e1⟩ o⟩
end
end L2.PV
set_option Elab.async false
set_option linter.all false
set_option maxRecDepth 100000
set_option maxHeartbeats 1000000
namespace L2.PV
open PySem PySem.Spec PyProof.Rows

/-! ### readings -/
abbrev VPt (ω α : Type) := L2.St → Env → Hp → Hp → ω → α → Prop
section
variable {ω ω1 α β : Type}
def Post (L : LC) (W : WX) (σ : L2.St) (F : Hp) (VP : VPt ω α) (o : R α) (Q : ω → Hp → Prop) : Prop := match o with
  | .ok a ρ' => ∀ v H' F', Rel L σ H' F' ρ' → Same F F' → VP σ ρ' H' F' v a → Q v H'
  | .exc x ρ' => ∀ cls dd H' F', Rel L σ H' F' ρ' → Same F F' → L.S.ex x cls dd H' → W cls dd σ H'
  | .stuck => False
def rd (L : LC) (W : WX) (VP : VPt ω α) (g : M α) : L2.St → Hp → (ω → Hp → Prop) → Prop := fun σ H Q => ∃ F ρ, Rel L σ H F ρ ∧ Post L W σ F VP (g ρ) Q
variable {L : LC} {W : WX} {σ : L2.St} {F F1 H : Hp} {VP : VPt ω α} {o : R α} {Q : ω → Hp → Prop} {ρ : Env}
theorem Post.mono (s : Same F F1) (h : Post L W σ F VP o Q) : Post L W σ F1 VP o Q := by
  cases o with
  | stuck => exact h
  | ok a ρ' => exact fun v H' F' r t q => h v H' F' r (s.trans t) q
  | exc x ρ' => exact fun c d H' F' r t q => h c d H' F' r (s.trans t) q
theorem Post.imp {Q' : ω → Hp → Prop} (hq : ∀ v H, Q v H → Q' v H) (h : Post L W σ F VP o Q) : Post L W σ F VP o Q' := by
  cases o with
  | stuck => exact h
  | ok a ρ' => exact fun v H' F' r t q => hq _ _ (h v H' F' r t q)
  | exc x ρ' => exact h
theorem Post.bind {VP1 : VPt ω1 β} {g : M β} {k : β → M α} (h : Post L W σ F VP (M.bind g k ρ) Q) :
    Post L W σ F VP1 (g ρ) (fun v H1 => ∃ F1 ρ1 a, Rel L σ H1 F1 ρ1 ∧ Same F F1 ∧ VP1 σ ρ1 H1 F1 v a ∧ Post L W σ F1 VP (k a ρ1) Q) := by
  unfold M.bind at h
  cases e : g ρ with
  | stuck => rw [e] at h; exact h
  | ok a ρ' => rw [e] at h; exact fun v H' F' r t q => ⟨F', ρ', a, r, t, q, h.mono t⟩
  | exc x ρ' => rw [e] at h; exact h
theorem rd.bind {VP1 : VPt ω1 β} {g : M β} {k : β → M α} (h : rd L W VP (M.bind g k) σ H Q) :
    rd L W VP1 g σ H (fun v H1 => ∃ F1 ρ1 a, Rel L σ H1 F1 ρ1 ∧ VP1 σ ρ1 H1 F1 v a ∧ Post L W σ F1 VP (k a ρ1) Q) := by
  obtain ⟨F, ρ, r, h⟩ := h
  exact ⟨F, ρ, r, (Post.bind (VP1 := VP1) h).imp fun v H1 ⟨F1, ρ1, a, q1, _, q3, q4⟩ => ⟨F1, ρ1, a, q1, q3, q4⟩⟩
/-- two in a row: what the first told stands behind the second -/
theorem rd.bind2 {ω2 γ : Type} {VP1 : VPt ω1 β} {VP2 : VPt ω2 γ} {g : M β} {g2 : M γ} {k : β → γ → M α}
    (keep : ∀ σ ρ H F ρ' H' F' v a, Same F F' → VP1 σ ρ H F v a → VP1 σ ρ' H' F' v a)
    (h : rd L W VP (M.bind g fun a => M.bind g2 (k a)) σ H Q) :
    rd L W VP1 g σ H (fun v H1 => rd L W VP2 g2 σ H1 fun v2 H2 => ∃ F2 ρ2 a a2, Rel L σ H2 F2 ρ2 ∧ VP1 σ ρ2 H2 F2 v a ∧ VP2 σ ρ2 H2 F2 v2 a2 ∧ Post L W σ F2 VP (k a a2 ρ2) Q) := by
  obtain ⟨F, ρ, r, h⟩ := h
  refine ⟨F, ρ, r, (Post.bind (VP1 := VP1) h).imp fun v H1 ⟨F1, ρ1, a, q1, _, q3, q4⟩ => ⟨F1, ρ1, q1, (Post.bind (VP1 := VP2) q4).imp fun v2 H2 ⟨F2, ρ2, a2, p1, p2, p3, p4⟩ => ⟨F2, ρ2, a, a2, p1, keep _ _ _ _ _ _ _ _ _ p2 q3, p3, p4⟩⟩⟩
theorem rd.bind3 {ω2 ω3 γ δ : Type} {VP1 : VPt ω1 β} {VP2 : VPt ω2 γ} {VP3 : VPt ω3 δ} {g : M β} {g2 : M γ} {g3 : M δ} {k : β → γ → δ → M α}
    (keep : ∀ σ ρ H F ρ' H' F' v a, Same F F' → VP1 σ ρ H F v a → VP1 σ ρ' H' F' v a)
    (keep2 : ∀ σ ρ H F ρ' H' F' v a, Same F F' → VP2 σ ρ H F v a → VP2 σ ρ' H' F' v a)
    (h : rd L W VP (M.bind g fun a => M.bind g2 fun b => M.bind g3 (k a b)) σ H Q) :
    rd L W VP1 g σ H (fun v H1 => rd L W VP2 g2 σ H1 fun v2 H2 => rd L W VP3 g3 σ H2 fun v3 H3 => ∃ F2 ρ2 a a2 a3, Rel L σ H3 F2 ρ2 ∧ VP1 σ ρ2 H3 F2 v a ∧ VP2 σ ρ2 H3 F2 v2 a2 ∧ VP3 σ ρ2 H3 F2 v3 a3 ∧ Post L W σ F2 VP (k a a2 a3 ρ2) Q) := by
  obtain ⟨F, ρ, r, h⟩ := h
  refine ⟨F, ρ, r, (Post.bind (VP1 := VP1) h).imp fun v H1 ⟨F1, ρ1, a, q1, _, q3, q4⟩ => ⟨F1, ρ1, q1, (Post.bind (VP1 := VP2) q4).imp fun v2 H2 ⟨F2, ρ2, a2, p1, p2, p3, p4⟩ => ⟨F2, ρ2, p1, (Post.bind (VP1 := VP3) p4).imp fun v3 H3 ⟨F3, ρ3, a3, s1, s2, s3, s4⟩ => ⟨F3, ρ3, a, a2, a3, s1, keep _ _ _ _ _ _ _ _ _ (p2.trans s2) q3, keep2 _ _ _ _ _ _ _ _ _ s2 p3, s3, s4⟩⟩⟩⟩
end

/-- a frozen value -/
def vE (L : LC) : VPt V Dat := fun _ _ _ F v d => Rp L.S.K L.S.G F v d
/-- a list is new and nobody's; all else frozen -/
def vO (L : LC) : VPt V Dat := fun σ ρ H F v d =>
  (∃ ds a, d = .list ds ∧ v = .ref a ∧ OwL L H F a ds ∧ L.H0 a = none ∧ ∀ i, ¬ LiveAt L σ ρ i a) ∨ ((∀ ds, d ≠ .list ds) ∧ Rp L.S.K L.S.G F v d)
def vB : VPt Bool Bool := fun _ _ _ _ b c => b = c
def vA (L : LC) : VPt (List V) (List Dat) := fun _ _ _ F vs ds => RpA L.S.K L.S.G F vs ds
theorem vE.keep {L : LC} : ∀ (σ : L2.St) (ρ : Env) (H F : Hp) (ρ' : Env) (H' F' : Hp) (v : V) (a : Dat), Same F F' → vE L σ ρ H F v a → vE L σ ρ' H' F' v a := fun _ _ _ _ _ _ _ _ _ s h => Rp.mono s h
theorem vA.keep {L : LC} : ∀ (σ : L2.St) (ρ : Env) (H F : Hp) (ρ' : Env) (H' F' : Hp) (v : List V) (a : List Dat), Same F F' → vA L σ ρ H F v a → vA L σ ρ' H' F' v a := fun _ _ _ _ _ _ _ _ _ s h => RpA.mono s h

abbrev tE (L : LC) (W : WX) (g : M Dat) : TE := rd L W (vE L) g
abbrev tO (L : LC) (W : WX) (g : M Dat) : TE := rd L W (vO L) g
abbrev tT (L : LC) (W : WX) (g : M Bool) : TT := rd L W vB g
abbrev tAs (L : LC) (W : WX) (g : M (List Dat)) : TA := rd L W (vA L) g

section
variable {L : LC} {W : WX} {σ : L2.St} {F F1 H : Hp} {ρ : Env}
/-- a new list that nobody has is frozen -/
theorem tE_of_tO {g : M Dat} {Q : VK} (h : tE L W g σ H Q) : tO L W g σ H Q := by
  obtain ⟨F, ρ, r, h⟩ := h
  refine ⟨F, ρ, r, ?_⟩
  cases e : g ρ with
  | stuck => rw [e] at h; exact h
  | exc x ρ' => rw [e] at h; exact h
  | ok d ρ' =>
    rw [e] at h
    intro v H' F' r' s q
    rcases q with ⟨ds, a, rfl, rfl, ⟨xs, e1, e2, e3⟩, h0, hn⟩ | ⟨n, q⟩
    · exact h _ H' (upd F' a (.lst xs)) (r'.freeze e1 h0 e2 hn) (s.trans (upd_same' e2)) (.lst upd_same (e3.mono (upd_same' e2)))
    · exact h v H' F' r' s q
end

/-! ### judgements over all calls -/
variable {X : Cx}
def EE (X : Cx) (S : Stc) (W : WX) (e : Expr) (g : M Dat) : Prop := ∀ L, L.S = S → PE X e (tE L W g)
def EO (X : Cx) (S : Stc) (W : WX) (e : Expr) (g : M Dat) : Prop := ∀ L, L.S = S → PE X e (tO L W g)
def ET (X : Cx) (S : Stc) (W : WX) (e : Expr) (g : M Bool) : Prop := ∀ L, L.S = S → PT X e (tT L W g)
def EA (X : Cx) (S : Stc) (W : WX) (es : List Expr) (g : M (List Dat)) : Prop := ∀ L, L.S = S → PA X es (tAs L W g)
theorem PE.imp {e : Expr} {t t' : TE} (h : PE X e t) (i : ∀ σ H Q, t' σ H Q → t σ H Q) : PE X e t' := ⟨fun pins s σ H Q I q => h.run pins s σ H Q I (i _ _ _ q)⟩
theorem PT.imp {e : Expr} {t t' : TT} (h : PT X e t) (i : ∀ σ H Q, t' σ H Q → t σ H Q) : PT X e t' := ⟨fun pins s σ H Q I q => h.run pins s σ H Q I (i _ _ _ q)⟩
theorem PA.imp {e : List Expr} {t t' : TA} (h : PA X e t) (i : ∀ σ H Q, t' σ H Q → t σ H Q) : PA X e t' := ⟨fun pos pins s σ H Q I q => h.run pos pins s σ H Q I (i _ _ _ q)⟩
theorem PS.imp {e : Stmt} {t t' : TS} (h : PS X e t) (i : ∀ D σ H, t' D σ H → t D σ H) : PS X e t' := ⟨fun pins s σ H D I q => h.run pins s σ H D I (i _ _ _ q)⟩
theorem PSs.imp {e : List Stmt} {t t' : TS} (h : PSs X e t) (i : ∀ D σ H, t' D σ H → t D σ H) : PSs X e t' := ⟨fun pins s σ H D I q => h.run pins s σ H D I (i _ _ _ q)⟩
theorem PI.imp {tg e : Expr} {t t' : TI} (h : PI X tg e t) (i : ∀ σ H Q, t' σ H Q → t σ H Q) : PI X tg e t' := ⟨fun pins s σ H Q I q => h.run pins s σ H Q I (i _ _ _ q)⟩
theorem EO.ee {S : Stc} {W : WX} {e : Expr} {g : M Dat} (h : EO X S W e g) : EE X S W e g := fun L hL => PE.imp (h L hL) fun _ _ _ q => tE_of_tO q

/-! ### values in, a value out -/
/-- the answer d: a frozen value, or a new frozen object -/
def Kont (S : Stc) (H F : Hp) (d : Dat) (Q : VK) : Prop :=
  (∀ v, Rp S.K S.G F v d → Q v H) ∧ (∀ p o, H p = none → Rp S.K S.G (upd F p o) (.ref p) d → Q (.ref p) (upd H p o))
/-- the answer d, a new list if it is a list -/
def KontO (S : Stc) (H F : Hp) (d : Dat) (Q : VK) : Prop :=
  ((∀ ds, d ≠ .list ds) → ∀ v, Rp S.K S.G F v d → Q v H) ∧ ((∀ ds, d ≠ .list ds) → ∀ p o, H p = none → Rp S.K S.G (upd F p o) (.ref p) d → Q (.ref p) (upd H p o)) ∧
  (∀ p xs ds, d = .list ds → H p = none → RpA S.K S.G F xs ds → Q (.ref p) (upd H p (.lst xs)))
theorem Kont.of {L : LC} {W : WX} {σ : L2.St} {H F : Hp} {ρ : Env} {d : Dat} {Q : VK} (r : Rel L σ H F ρ) (h : Post L W σ F (vE L) (.ok d ρ) Q) : Kont L.S H F d Q :=
  ⟨fun v q => h v H F r (Same.refl _) q, fun p o n q => h _ _ _ (r.laid n) (upd_same' (r.free n)) q⟩
theorem KontO.of {L : LC} {W : WX} {σ : L2.St} {H F : Hp} {ρ : Env} {d : Dat} {Q : VK} (r : Rel L σ H F ρ) (h : Post L W σ F (vO L) (.ok d ρ) Q) : KontO L.S H F d Q :=
  ⟨fun n v q => h v H F r (Same.refl _) (.inr ⟨n, q⟩), fun n p o np q => h _ _ _ (r.laid np) (upd_same' (r.free np)) (.inr ⟨n, q⟩),
    fun p xs ds e np q => h _ _ F (r.newH np) (Same.refl _) (.inl ⟨ds, p, e, rfl, ⟨xs, upd_same, r.free np, q⟩, r.free0 np, fun i lv => r.live_ne lv np rfl⟩)⟩
theorem Kont.o {S : Stc} {H F : Hp} {d : Dat} {Q : VK} (s : Same F H) (k : Kont S H F d Q) : KontO S H F d Q :=
  ⟨fun _ v q => k.1 v q, fun _ p o np q => k.2 p o np q, fun p xs ds e np q => by
    subst e
    exact k.2 p _ np (.lst upd_same (q.mono (upd_same' (s.free np))))⟩

def OpO (S : Stc) (r : R2) (h : Dat → Dat → Option Dat) : Prop := ∀ H F x y dx dy d Q, Same F H → Rp S.K S.G F x dx → Rp S.K S.G F y dy → h dx dy = some d → KontO S H F d Q → r x y H Q
def OpE (S : Stc) (r : R2) (h : Dat → Dat → Option Dat) : Prop := ∀ H F x y dx dy d Q, Same F H → Rp S.K S.G F x dx → Rp S.K S.G F y dy → h dx dy = some d → Kont S H F d Q → r x y H Q
theorem OpO.e {S : Stc} {r : R2} {h : Dat → Dat → Option Dat} (a : OpO S r h) : OpE S r h := fun H F x y dx dy d Q s p q e k => a H F x y dx dy d Q s p q e (k.o s)
/-- the meaning of a two-place operation -/
def cBin (h : Dat → Dat → Option Dat) (ga gb : M Dat) : M Dat := M.bind ga fun a => M.bind gb fun b => M.lift (h a b)
theorem post_lift {ω α : Type} {L : LC} {W : WX} {σ : L2.St} {F : Hp} {VP : VPt ω α} {o : Option α} {ρ : Env} {Q : ω → Hp → Prop} (h : Post L W σ F VP (M.lift o ρ) Q) : ∃ a, o = some a ∧ Post L W σ F VP (.ok a ρ) Q := by
  unfold M.lift at h
  cases o with
  | none => exact absurd h (by intro z; exact z)
  | some a => exact ⟨a, rfl, h⟩
theorem tOp_e {L : LC} {W : WX} {r : R2} {h : Dat → Dat → Option Dat} {ga gb : M Dat} (ho : OpE L.S r h) : ∀ σ H Q, tE L W (cBin h ga gb) σ H Q → tOp r (tE L W ga) (tE L W gb) σ H Q := fun σ H Q q => by
  obtain ⟨F, ρ, r0, q⟩ := rd.bind2 (VP1 := vE L) (VP2 := vE L) vE.keep q
  refine ⟨F, ρ, r0, q.imp fun v H1 ⟨F1, ρ1, r1, q⟩ => ⟨F1, ρ1, r1, q.imp fun v2 H2 ⟨F2, ρ2, a, a2, r2, h1, h2, q⟩ => ?_⟩⟩
  obtain ⟨d, e, q⟩ := post_lift q
  exact ho H2 F2 v v2 a a2 d Q r2.sub h1 h2 e (Kont.of r2 q)
theorem tOp_o {L : LC} {W : WX} {r : R2} {h : Dat → Dat → Option Dat} {ga gb : M Dat} (ho : OpO L.S r h) : ∀ σ H Q, tO L W (cBin h ga gb) σ H Q → tOp r (tE L W ga) (tE L W gb) σ H Q := fun σ H Q q => by
  obtain ⟨F, ρ, r0, q⟩ := rd.bind2 (VP1 := vE L) (VP2 := vE L) vE.keep q
  refine ⟨F, ρ, r0, q.imp fun v H1 ⟨F1, ρ1, r1, q⟩ => ⟨F1, ρ1, r1, q.imp fun v2 H2 ⟨F2, ρ2, a, a2, r2, h1, h2, q⟩ => ?_⟩⟩
  obtain ⟨d, e, q⟩ := post_lift q
  exact ho H2 F2 v v2 a a2 d Q r2.sub h1 h2 e (KontO.of r2 q)

section
variable {S : Stc} {W : WX} {a b c : Expr} {ga gb gc : M Dat} {pos : Pos} {h : Dat → Dat → Option Dat} {r : R2}
theorem ee_bin {op : Operator} (ho : OpR X (binaryOp op) r) (hh : OpE S r h) (ha : EE X S W a ga) (hb : EE X S W b gb) : EE X S W (.BinOp a op b pos) (cBin h ga gb) := fun L hL => by
  subst hL
  exact PE.imp (pe_op ho (ha L rfl) (hb L rfl)) (tOp_e hh)
theorem eo_bin {op : Operator} (ho : OpR X (binaryOp op) r) (hh : OpO S r h) (ha : EE X S W a ga) (hb : EE X S W b gb) : EO X S W (.BinOp a op b pos) (cBin h ga gb) := fun L hL => by
  subst hL
  exact PE.imp (pe_op ho (ha L rfl) (hb L rfl)) (tOp_o hh)
theorem ee_cmp {op : CmpOp} (ho : OpR X (compareOp op) r) (hh : OpE S r h) (ha : EE X S W a ga) (hb : EE X S W b gb) (hm : behindInMarks op b = false) : EE X S W (.Compare a [op] [b] pos) (cBin h ga gb) := fun L hL => by
  subst hL
  exact PE.imp (pe_cmpR ho (ha L rfl) (hb L rfl) hm) (tOp_e hh)
end

/-! ### names, constants -/
def cConst (d : Dat) : M Dat := M.pure d
def cVar (i : Nat) : M Dat := fun ρ => match ρ[i]? with
  | some (some d) => .ok d ρ
  | _ => .stuck
section
variable {S : Stc} {W : WX} {pos : Pos} {j : Nat}
theorem tE_const {L : LC} {v : V} {d : Dat} (hr : ∀ F, Rp L.S.K L.S.G F v d) : ∀ σ H Q, tE L W (cConst d) σ H Q → tC v σ H Q := fun σ H Q ⟨F, ρ, r, q⟩ => q v H F r (Same.refl _) (hr F)
theorem ee_int {i : Int} : EE X S W (.Constant (.int i) j pos) (cConst (.int i)) := fun L _ => PE.imp pe_int (tE_const fun _ => .int i)
theorem ee_bl {i : Bool} : EE X S W (.Constant (.bool i) j pos) (cConst (.bool i)) := fun L _ => PE.imp pe_bl (tE_const fun _ => .bl i)
theorem ee_non : EE X S W (.Constant .none j pos) (cConst .none) := fun L _ => PE.imp pe_non (tE_const fun _ => .non)
theorem ee_str {i : Str} : EE X S W (.Constant (.str i) j pos) (cConst (.str i)) := fun L _ => PE.imp pe_str (tE_const fun _ => .str i)
theorem ee_glob {x : Str} {u : Value} {v : V} {d : Dat} (hg : Gl X x) (hm : X.mg x = some u) (r : RelV v u) (hd : (x == ("__debug__" : Str)) = false) (hr : ∀ F, Rp S.K S.G F v d) : EE X S W (.Name x pos) (cConst d) := fun L hL => by
  subst hL
  exact PE.imp (pe_glob hg hm r hd) (tE_const hr)
theorem ee_var {i : Nat} {x : Str} (hN : X.N[i]? = some x) (hv : Vis X.env.scope x) (hk : S.ks[i]? = some Kd.p) (hd : (x == ("__debug__" : Str)) = false) (hcd : (x == ("__classdict__" : Str)) = false) : EE X S W (.Name x pos) (cVar i) := fun L hL => by
  subst hL
  refine PE.imp (pe_var hN hv hd hcd) fun σ H Q ⟨F, ρ, r, q⟩ => ?_
  unfold cVar at q
  split at q
  · rename_i d e
    obtain ⟨v, e1, e2⟩ := r.pl i d hk e
    exact ⟨v, e1, q v H F r (Same.refl _) e2⟩
  · exact absurd q (by intro z; exact z)
end
end L2.PV
set_option Elab.async false
set_option linter.all false
set_option maxRecDepth 100000
set_option maxHeartbeats 1000000
namespace L2.PV
open PySem PySem.Spec PyProof.Rows

/-! ### operations on data -/
abbrev lineN : Nat := 16777216
theorem line_eq : (sizeLine : Nat) = lineN := sizeLine_eq
def small64 (i : Int) : Bool := decide (-(2 ^ 64) < i) && decide (i < 2 ^ 64)
def hAdd : Dat → Dat → Option Dat
  | .int i, .int j => some (.int (i + j))
  | .str x, .str y => if x.length + y.length ≤ lineN then some (.str (x ++ y)) else none
  | .tuple xs, .tuple ys => if xs.length + ys.length ≤ lineN then some (.tuple (xs ++ ys)) else none
  | .list xs, .list ys => if xs.length + ys.length ≤ lineN then some (.list (xs ++ ys)) else none
  | _, _ => none
def hSub : Dat → Dat → Option Dat
  | .int i, .int j => some (.int (i - j))
  | _, _ => none
def hMul : Dat → Dat → Option Dat
  | .int i, .int j => if small64 i || small64 j then some (.int (i * j)) else none
  | .tuple xs, .int k => if xs ≠ [] ∧ 2 ≤ k ∧ k ≤ 1000 ∧ xs.length ≤ 1000 then some (.tuple (List.replicate k.toNat xs).flatten) else none
  | .list xs, .int k => if 0 ≤ k ∧ k ≤ 1000 ∧ xs.length ≤ 1000 then some (.list (List.replicate k.toNat xs).flatten) else none
  | _, _ => none
def hDiv : Dat → Dat → Option Dat
  | .int i, .int j => if 0 < j ∧ j < 2 ^ 64 then some (.int (i / j)) else none
  | _, _ => none
def hMod : Dat → Dat → Option Dat
  | .int i, .int j => if 0 < j then some (.int (i % j)) else none
  | _, _ => none
def hPow : Dat → Dat → Option Dat
  | .int i, .int j => if 0 ≤ j ∧ j ≤ 1000 ∧ i.natAbs < 2 ^ 64 then some (.int (i ^ j.toNat)) else none
  | _, _ => none
def shaped (d : Dat) : Bool := SeqAt.shaped d
def hEq (d e : Dat) : Option Dat := if shaped d && shaped e then some (.bool (PyData.eqv d e)) else none
def hNe (d e : Dat) : Option Dat := if shaped d && shaped e then some (.bool (!PyData.eqv d e)) else none
def notNone : Dat → Bool
  | .none => false
  | _ => true
def hLt : Dat → Dat → Option Dat
  | .int i, .int j => some (.bool (decide (i < j)))
  | d, e => if PySem.W.alike d e && notNone d && shaped d && shaped e then some (.bool (PySem.W.dataLt d e)) else none
def hLe : Dat → Dat → Option Dat
  | .int i, .int j => some (.bool (decide (i ≤ j)))
  | _, _ => none
def hGt : Dat → Dat → Option Dat
  | .int i, .int j => some (.bool (decide (j < i)))
  | _, _ => none
def hGe : Dat → Dat → Option Dat
  | .int i, .int j => some (.bool (decide (j ≤ i)))
  | _, _ => none
def inD (d : Dat) (ds : List Dat) : Bool := ds.any fun z => PyData.eqv z d
def strIn (i j : Str) : Bool := !(Builtin.Str.occurrences j i 0 j.length 1).isEmpty
def hIn : Dat → Dat → Option Dat
  | d, .list ds => if shaped d && shaped (.list ds) then some (.bool (inD d ds)) else none
  | d, .tuple ds => if shaped d && shaped (.tuple ds) then some (.bool (inD d ds)) else none
  | .str i, .str j => some (.bool (strIn i j))
  | _, _ => none
def hNotIn : Dat → Dat → Option Dat
  | d, .list ds => if shaped d && shaped (.list ds) then some (.bool (!inD d ds)) else none
  | d, .tuple ds => if shaped d && shaped (.tuple ds) then some (.bool (!inD d ds)) else none
  | .str i, .str j => some (.bool (!strIn i j))
  | _, _ => none
def isNone : Dat → Bool
  | .none => true
  | _ => false
def hIs : Dat → Dat → Option Dat
  | d, .none => some (.bool (isNone d))
  | .bool a, .bool b => some (.bool (a == b))
  | _, _ => none
def hIsNot : Dat → Dat → Option Dat
  | d, .none => some (.bool (!isNone d))
  | .bool a, .bool b => some (.bool (a != b))
  | _, _ => none

section
variable {S : Stc} {X : Cx}
theorem RpA.rep {K : PySem.W.Frag} {G : Str → Option Addr} {F : Hp} {vs : List V} {ds : List Dat} (h : RpA K G F vs ds) : ∀ k : Nat, RpA K G F (List.replicate k vs).flatten (List.replicate k ds).flatten
  | 0 => .nil
  | k + 1 => by rw [List.replicate_succ, List.replicate_succ, List.flatten_cons, List.flatten_cons]; exact h.append (RpA.rep h k)
theorem nl {ds : List Dat} : ∀ es : List Dat, PyData.tuple ds ≠ .list es := fun _ z => nomatch z
theorem nlb {b : Bool} : ∀ es : List Dat, PyData.bool b ≠ .list es := fun _ z => nomatch z
theorem nli {b : Int} : ∀ es : List Dat, PyData.int b ≠ .list es := fun _ z => nomatch z
theorem nls {b : Str} : ∀ es : List Dat, PyData.str b ≠ .list es := fun _ z => nomatch z

def rAddA (K : PySem.W.Frag) : R2 := fun x y H Q => rI0 (fun i j => .int (i + j)) x y H Q ∨ (∃ i j, x = .str i ∧ y = .str j ∧ i.length + j.length ≤ sizeLine ∧ Q (.str (i ++ j)) H) ∨ rCatA K x y H Q ∨ rCat x y H Q
theorem op_addA : OpR X (binaryOp .Add) (rAddA X.K) := OpR.or op_add (OpR.or op_add_str (OpR.or op_catA op_cat))
theorem addO : OpO S (rAddA S.K) hAdd := by
  intro H F x y dx dy d Q s px py e k
  unfold hAdd at e
  split at e
  · cases px; cases py; cases e
    exact .inl ⟨_, _, rfl, rfl, k.1 nli _ (.int _)⟩
  · split at e
    · rename_i hz
      cases px; cases py; cases e
      exact .inr (.inl ⟨_, _, rfl, rfl, by rw [line_eq]; exact hz, k.1 nls _ (.str _)⟩)
    · cases e
  · split at e
    · rename_i hz
      cases px with
      | tup ha ra =>
      cases py with
      | tup hb rb =>
      cases e
      refine .inr (.inr (.inl ⟨_, _, _, _, rfl, rfl, sqt_mono s ha, sqt_mono s hb, by rw [line_eq, ra.length, rb.length]; exact hz, fun z => ?_, fun _ z => ?_, fun _ _ p np => ?_⟩))
      · subst z; cases ra; exact k.1 nl _ (.tup hb rb)
      · subst z; cases rb; rw [List.append_nil] at k; exact k.1 nl _ (.tup ha ra)
      · exact k.2.1 nl _ _ np (.tup (SqT.of upd_same) ((ra.append rb).mono (upd_same' (s.free np))))
    · cases e
  · split at e
    · rename_i hz
      cases px with
      | lst ha ra =>
      cases py with
      | lst hb rb =>
      cases e
      exact .inr (.inr (.inr ⟨_, _, _, _, rfl, rfl, s _ _ ha, s _ _ hb, by rw [line_eq, ra.length, rb.length]; exact hz, fun p np => k.2.2 _ _ _ rfl np (ra.append rb)⟩))
    · cases e
  · cases e

theorem subE : OpE S (rI0 fun i j => .int (i - j)) hSub := by
  intro H F x y dx dy d Q s px py e k
  unfold hSub at e
  split at e
  · cases px; cases py; cases e
    exact ⟨_, _, rfl, rfl, k.1 _ (.int _)⟩
  · cases e

def rMulA (K : PySem.W.Frag) : R2 := fun x y H Q => rI CMul (fun i j => .int (i * j)) x y H Q ∨ rRepT K x y H Q ∨ rRep x y H Q
theorem op_mulA : OpR X (binaryOp .Mult) (rMulA X.K) := OpR.or op_mul (OpR.or op_repT op_rep)
theorem mulO : OpO S (rMulA S.K) hMul := by
  intro H F x y dx dy d Q s px py e k
  unfold hMul at e
  split at e
  · split at e
    · rename_i hz
      cases px; cases py; cases e
      refine .inl ⟨_, _, rfl, rfl, ?_, k.1 nli _ (.int _)⟩
      simp only [small64, Bool.or_eq_true, Bool.and_eq_true, decide_eq_true_eq] at hz
      exact hz
    · cases e
  · split at e
    · rename_i hz
      cases px with
      | tup ha ra =>
      cases py; cases e
      refine .inr (.inl ⟨_, _, _, rfl, rfl, sqt_mono s ha, fun z => ?_, hz.2.1, hz.2.2.1, by rw [ra.length]; exact hz.2.2.2, fun p np => ?_⟩)
      · subst z; cases ra; exact hz.1 rfl
      · exact k.2.1 nl _ _ np (.tup (SqT.of upd_same) ((ra.rep _).mono (upd_same' (s.free np))))
    · cases e
  · rename_i xs m
    split at e
    · rename_i hz
      cases px with
      | lst ha ra =>
      cases py; cases e
      refine .inr (.inr ⟨_, _, _, rfl, rfl, s _ _ ha, by omega, by omega, ?_, fun p np => k.2.2 _ _ _ rfl np (ra.rep _)⟩)
      rw [line_eq, ra.length]
      have hm : m.toNat ≤ 1000 := by have := hz.2.1; omega
      have a1 : xs.length * m.toNat ≤ 1000 * 1000 := Nat.mul_le_mul hz.2.2 hm
      exact Nat.le_trans a1 (by decide)
    · cases e
  · cases e

theorem divE : OpE S (rI CDivW fun i j => .int (i / j)) hDiv := by
  intro H F x y dx dy d Q s px py e k
  unfold hDiv at e
  split at e
  · split at e
    · rename_i hz
      cases px; cases py; cases e
      refine ⟨_, _, rfl, rfl, wide_div (b := 64) hz.1 ?_ (by decide) (by decide), k.1 _ (.int _)⟩
      have h1 := hz.1
      have h2 := hz.2
      omega
    · cases e
  · cases e
theorem modE : OpE S (rI (fun _ j => 0 < j) fun i j => .int (i % j)) hMod := by
  intro H F x y dx dy d Q s px py e k
  unfold hMod at e
  split at e
  · split at e
    · rename_i hz
      cases px; cases py; cases e
      exact ⟨_, _, rfl, rfl, hz, k.1 _ (.int _)⟩
    · cases e
  · cases e
theorem powE : OpE S (rI CPow fun i j => .int (i ^ j.toNat)) hPow := by
  intro H F x y dx dy d Q s px py e k
  unfold hPow at e
  split at e
  · split at e
    · rename_i hz
      cases px; cases py; cases e
      exact ⟨_, _, rfl, rfl, ⟨hz.1, by have := hz.2.1; omega, hz.2.2⟩, k.1 _ (.int _)⟩
    · cases e
  · cases e

/-! ### comparisons -/
mutual
theorem plain_of_lay : ∀ d : Dat, d.canLay0 = true → plain d = true
  | .none, _ => rfl
  | .bool _, _ => rfl
  | .int _, _ => rfl
  | .str _, _ => rfl
  | .list xs, h => by simp only [PyData.canLay0] at h; simpa [plain] using plains_of_lay xs h
  | .tuple xs, h => by simp only [PyData.canLay0] at h; simpa [plain] using plains_of_lay xs h
  | .dict xs, h => by simp [PyData.canLay0] at h
theorem plains_of_lay : ∀ ds : List Dat, PyData.canLayAll0 ds = true → plains ds = true
  | [], _ => rfl
  | x :: xs, h => by
    simp only [PyData.canLayAll0, Bool.and_eq_true] at h
    simp only [plains, Bool.and_eq_true]
    exact ⟨plain_of_lay x h.1, plains_of_lay xs h.2⟩
end
theorem plain_of_shaped {d : Dat} (h : shaped d = true) : plain d = true := by
  unfold shaped SeqAt.shaped at h
  rw [Bool.and_eq_true] at h
  exact plain_of_lay d h.1
theorem eqE : OpE S (rEqD S.K) hEq := by
  intro H F x y dx dy d Q s px py e k
  unfold hEq at e
  split at e
  · rename_i hz
    rw [Bool.and_eq_true] at hz
    cases e
    exact ⟨dx, dy, px.dp s dx (plain_of_shaped hz.1), py.dp s dy (plain_of_shaped hz.2), hz.1, hz.2, k.1 _ (.bl _)⟩
  · cases e
theorem neE : OpE S (rNeD S.K) hNe := by
  intro H F x y dx dy d Q s px py e k
  unfold hNe at e
  split at e
  · rename_i hz
    rw [Bool.and_eq_true] at hz
    cases e
    exact ⟨dx, dy, px.dp s dx (plain_of_shaped hz.1), py.dp s dy (plain_of_shaped hz.2), hz.1, hz.2, k.1 _ (.bl _)⟩
  · cases e
theorem notNone_ne {d : Dat} (h : notNone d = true) : d ≠ .none := fun z => by subst z; cases h
def rLtD (K : PySem.W.Frag) : R2 := fun x y H Q => ∃ d e, Dp K H x d ∧ Dp K H y e ∧ PySem.W.alike d e = true ∧ d ≠ .none ∧ shaped d = true ∧ shaped e = true ∧ Q (.bl (PySem.W.dataLt d e)) H
theorem op_ltD (hu : X.A.units + 64 < cLine) : OpR X (compareOp .Lt) (rLtD X.K) := by
  intro pins s σ H x y v u Q I rx ry h
  obtain ⟨d, e, hd, he, al, nn, sd, se, q⟩ := h
  obtain ⟨as, r1⟩ := Dp.reads I d x v hd rx
  obtain ⟨bs, r2⟩ := Dp.reads I e y u he ry
  have dd : d.depth ≤ 64 := by
    unfold shaped SeqAt.shaped at sd
    rw [Bool.and_eq_true] at sd
    exact of_decide_eq_true sd.2
  have hm : X.A.units + min d.depth e.depth < cLine := by
    have := Nat.min_le_left d.depth e.depth
    omega
  exact PySem.W.rcLt_alike d e X.A s v u as bs r1 r2 al nn hm X.prog X.w X.xe _ ⟨.bl _, H, I, rfl, q⟩
def rLtA (K : PySem.W.Frag) : R2 := fun x y H Q => rI0 (fun i j => .bl (decide (i < j))) x y H Q ∨ rLtD K x y H Q
theorem op_ltA (hu : X.A.units + 64 < cLine) : OpR X (compareOp .Lt) (rLtA X.K) := OpR.or op_lt (op_ltD hu)
theorem ltE : OpE S (rLtA S.K) hLt := by
  intro H F x y dx dy d Q s px py e k
  unfold hLt at e
  split at e
  · cases px; cases py; cases e
    exact .inl ⟨_, _, rfl, rfl, k.1 _ (.bl _)⟩
  · split at e
    · rename_i hz
      simp only [Bool.and_eq_true] at hz
      obtain ⟨⟨⟨h1, h2⟩, h3⟩, h4⟩ := hz
      cases e
      exact .inr ⟨dx, dy, px.dp s dx (plain_of_shaped h3), py.dp s dy (plain_of_shaped h4), h1, notNone_ne h2, h3, h4, k.1 _ (.bl _)⟩
    · cases e
theorem leE : OpE S (rI0 fun i j => .bl (decide (i ≤ j))) hLe := by
  intro H F x y dx dy d Q s px py e k
  unfold hLe at e
  split at e
  · cases px; cases py; cases e
    exact ⟨_, _, rfl, rfl, k.1 _ (.bl _)⟩
  · cases e
theorem gtE : OpE S (rI0 fun i j => .bl (decide (j < i))) hGt := by
  intro H F x y dx dy d Q s px py e k
  unfold hGt at e
  split at e
  · cases px; cases py; cases e
    exact ⟨_, _, rfl, rfl, k.1 _ (.bl _)⟩
  · cases e
theorem geE : OpE S (rI0 fun i j => .bl (decide (j ≤ i))) hGe := by
  intro H F x y dx dy d Q s px py e k
  unfold hGe at e
  split at e
  · cases px; cases py; cases e
    exact ⟨_, _, rfl, rfl, k.1 _ (.bl _)⟩
  · cases e

def rInT (K : PySem.W.Frag) (f : Bool → Bool) : R2 := fun x y H Q => ∃ d ds, Dp K H x d ∧ Dp K H y (.tuple ds) ∧ shaped d = true ∧ shaped (.tuple ds) = true ∧ Q (.bl (f (inD d ds))) H
theorem op_inT (hu : X.A.units + 65 < cLine) : OpR X (compareOp .In) (rInT X.K fun b => b) := by
  intro pins s σ H x y v u Q I rx ry h
  obtain ⟨d, ds, hd, he, sd, se, q⟩ := h
  obtain ⟨as, r1⟩ := Dp.reads I d x v hd rx
  obtain ⟨bs, r2⟩ := Dp.reads I (.tuple ds) y u he ry
  exact SeqAt.in_tuple_reads r2 r1 (SeqAt.canLay_of_shaped (d := .list ds) se) (SeqAt.canLay_of_shaped sd) (room_in_shaped sd hu) ⟨.bl _, H, I, rfl, q⟩
theorem op_notInT (hu : X.A.units + 65 < cLine) : OpR X (compareOp .NotIn) (rInT X.K fun b => !b) := by
  intro pins s σ H x y v u Q I rx ry h
  obtain ⟨d, ds, hd, he, sd, se, q⟩ := h
  obtain ⟨as, r1⟩ := Dp.reads I d x v hd rx
  obtain ⟨bs, r2⟩ := Dp.reads I (.tuple ds) y u he ry
  exact SeqAt.notIn_tuple_reads r2 r1 (SeqAt.canLay_of_shaped (d := .list ds) se) (SeqAt.canLay_of_shaped sd) (room_in_shaped sd hu) ⟨.bl _, H, I, rfl, q⟩
end
end L2.PV
set_option Elab.async false
set_option linter.all false
set_option maxRecDepth 100000
set_option maxHeartbeats 1000000
namespace L2.PV
open PySem PySem.Spec PyProof.Rows
section
variable {S : Stc} {X : Cx}
/-! ### in, is -/
def rInA (K : PySem.W.Frag) : R2 := fun x y H Q => rInD K x y H Q ∨ rInT K (fun b => b) x y H Q ∨ (∃ i j, x = .str i ∧ y = .str j ∧ Q (.bl (strIn i j)) H)
theorem op_inA (hu : X.A.units + 65 < cLine) : OpR X (compareOp .In) (rInA X.K) := OpR.or (op_inD hu) (OpR.or (op_inT hu) op_in_str)
theorem inE : OpE S (rInA S.K) hIn := by
  intro H F x y dx dy d Q s px py e k
  unfold hIn at e
  split at e
  · split at e
    · rename_i hz
      rw [Bool.and_eq_true] at hz
      cases e
      exact .inl ⟨_, _, px.dp s _ (plain_of_shaped hz.1), py.dp s _ (plain_of_shaped hz.2), hz.1, hz.2, k.1 _ (.bl _)⟩
    · cases e
  · split at e
    · rename_i hz
      rw [Bool.and_eq_true] at hz
      cases e
      exact .inr (.inl ⟨_, _, px.dp s _ (plain_of_shaped hz.1), py.dp s _ (plain_of_shaped hz.2), hz.1, hz.2, k.1 _ (.bl _)⟩)
    · cases e
  · cases px; cases py; cases e
    exact .inr (.inr ⟨_, _, rfl, rfl, k.1 _ (.bl _)⟩)
  · cases e
def rNotInA (K : PySem.W.Frag) : R2 := fun x y H Q => rNotInD K x y H Q ∨ rInT K (fun b => !b) x y H Q ∨ (∃ i j, x = .str i ∧ y = .str j ∧ Q (.bl (!strIn i j)) H)
theorem op_notInA (hu : X.A.units + 65 < cLine) : OpR X (compareOp .NotIn) (rNotInA X.K) := OpR.or (op_notInD hu) (OpR.or (op_notInT hu) op_notIn_str)
theorem notInE : OpE S (rNotInA S.K) hNotIn := by
  intro H F x y dx dy d Q s px py e k
  unfold hNotIn at e
  split at e
  · split at e
    · rename_i hz
      rw [Bool.and_eq_true] at hz
      cases e
      exact .inl ⟨_, _, px.dp s _ (plain_of_shaped hz.1), py.dp s _ (plain_of_shaped hz.2), hz.1, hz.2, k.1 _ (.bl _)⟩
    · cases e
  · split at e
    · rename_i hz
      rw [Bool.and_eq_true] at hz
      cases e
      exact .inr (.inl ⟨_, _, px.dp s _ (plain_of_shaped hz.1), py.dp s _ (plain_of_shaped hz.2), hz.1, hz.2, k.1 _ (.bl _)⟩)
    · cases e
  · cases px; cases py; cases e
    exact .inr (.inr ⟨_, _, rfl, rfl, k.1 _ (.bl _)⟩)
  · cases e
theorem op_is_bl : OpR X (compareOp .Is) (fun x y H Q => ∃ a b, x = .bl a ∧ y = .bl b ∧ Q (.bl (a == b)) H) := by
  intro pins s σ H x y v u Q I rx ry h
  obtain ⟨a, b, rfl, rfl, q⟩ := h
  cases rx
  cases ry
  exact is_bool ⟨.bl _, H, I, rfl, q⟩
theorem op_isnot_bl : OpR X (compareOp .IsNot) (fun x y H Q => ∃ a b, x = .bl a ∧ y = .bl b ∧ Q (.bl (a != b)) H) := by
  intro pins s σ H x y v u Q I rx ry h
  obtain ⟨a, b, rfl, rfl, q⟩ := h
  cases rx
  cases ry
  exact isnot_bool ⟨.bl _, H, I, rfl, q⟩
def rIsA : R2 := fun x y H Q => (y = .non ∧ Q (.bl (decide (x = .non))) H) ∨ (∃ a b, x = .bl a ∧ y = .bl b ∧ Q (.bl (a == b)) H)
theorem op_isA : OpR X (compareOp .Is) rIsA := OpR.or op_isN op_is_bl
def rIsNotA : R2 := fun x y H Q => (y = .non ∧ Q (.bl (!decide (x = .non))) H) ∨ (∃ a b, x = .bl a ∧ y = .bl b ∧ Q (.bl (a != b)) H)
theorem op_isNotA : OpR X (compareOp .IsNot) rIsNotA := OpR.or op_notN op_isnot_bl
theorem isNone_v {K : PySem.W.Frag} {G : Str → Option Addr} {F : Hp} {v : V} {d : Dat} (p : Rp K G F v d) : decide (v = .non) = isNone d := by
  cases p <;> rfl
theorem isE : OpE S rIsA hIs := by
  intro H F x y dx dy d Q s px py e k
  unfold hIs at e
  split at e
  · cases py; cases e
    exact .inl ⟨rfl, by rw [isNone_v px]; exact k.1 _ (.bl _)⟩
  · cases px; cases py; cases e
    exact .inr ⟨_, _, rfl, rfl, k.1 _ (.bl _)⟩
  · cases e
theorem isNotE : OpE S rIsNotA hIsNot := by
  intro H F x y dx dy d Q s px py e k
  unfold hIsNot at e
  split at e
  · cases py; cases e
    exact .inl ⟨rfl, by rw [isNone_v px]; exact k.1 _ (.bl _)⟩
  · cases px; cases py; cases e
    exact .inr ⟨_, _, rfl, rfl, k.1 _ (.bl _)⟩
  · cases e

/-! ### truth -/
def hTru : Dat → Option Bool
  | .none => some false
  | .bool b => some b
  | .int i => some (i != 0)
  | .str y => if y.length ≤ lineN then some ((y.length : Int) != 0) else none
  | .list xs => some (!xs.isEmpty)
  | .tuple xs => some (!xs.isEmpty)
  | _ => none
theorem RpA.empty {K : PySem.W.Frag} {G : Str → Option Addr} {F : Hp} {vs : List V} {ds : List Dat} (h : RpA K G F vs ds) : vs.isEmpty = ds.isEmpty := by
  cases h <;> rfl
theorem truV_of {H F : Hp} {v : V} {d : Dat} {k : Bool} (s : Same F H) (p : Rp S.K S.G F v d) (e : hTru d = some k) : TruV S.K v H k := by
  unfold hTru at e
  split at e
  · cases p; cases e; exact rfl
  · cases p; cases e; exact rfl
  · cases p; cases e; exact rfl
  · split at e
    · rename_i hz; cases p; cases e; exact ⟨by rw [line_eq]; exact hz, rfl⟩
    · cases e
  · cases p with
    | lst h r => cases e; exact .inl ⟨_, SqL.of (s _ _ h), by rw [r.empty]⟩
  · cases p with
    | tup h r => cases e; exact .inr (.inl ⟨_, sqt_mono s h, by rw [r.empty]⟩)
  · cases e
def cOr (ga gb : M Dat) : M Dat := M.bind ga fun a => match hTru a with
  | some true => M.pure a
  | some false => gb
  | none => fun _ => .stuck
def cAnd (ga gb : M Dat) : M Dat := M.bind ga fun a => match hTru a with
  | some true => gb
  | some false => M.pure a
  | none => fun _ => .stuck
def cNot (ga : M Dat) : M Dat := M.bind ga fun a => M.lift ((hTru a).map fun b => .bool (!b))
def toB (ga : M Dat) : M Bool := M.bind ga fun a => M.lift (hTru a)
def bAnd (ga gb : M Bool) : M Bool := M.bind ga fun a => if a then gb else M.pure false
def bOr (ga gb : M Bool) : M Bool := M.bind ga fun a => if a then M.pure true else gb
def bNot (ga : M Bool) : M Bool := M.bind ga fun a => M.pure (!a)
def cIf (t : M Bool) (ga gb : M Dat) : M Dat := M.bind t fun c => if c then ga else gb

variable {W : WX} {a b c : Expr} {rest : List Expr} {ga gb gc : M Dat} {ta tb : M Bool} {pos : Pos}
theorem ee_or (hK : X.K = S.K) (ha : EE X S W a ga) (hb : EE X S W (.BoolOp .Or (b :: rest) pos) gb) : EE X S W (.BoolOp .Or (a :: b :: rest) pos) (cOr ga gb) := fun L hL => by
  subst hL
  refine PE.imp (pe_orT (ha L rfl) (hb L rfl)) fun σ H Q q => ?_
  obtain ⟨F, ρ, r, q⟩ := rd.bind (VP1 := vE L) q
  refine ⟨F, ρ, r, q.imp fun v H1 ⟨F1, ρ1, d, r1, p1, q⟩ => ?_⟩
  cases e : hTru d with
  | none => rw [e] at q; exact absurd q (by intro z; exact z)
  | some k =>
    rw [e] at q
    refine ⟨k, hK ▸ truV_of r1.sub p1 e, ?_⟩
    cases k with
    | true => exact q v H1 F1 r1 (Same.refl _) p1
    | false => exact ⟨F1, ρ1, r1, q⟩
theorem ee_and (hK : X.K = S.K) (ha : EE X S W a ga) (hb : EE X S W (.BoolOp .And (b :: rest) pos) gb) : EE X S W (.BoolOp .And (a :: b :: rest) pos) (cAnd ga gb) := fun L hL => by
  subst hL
  refine PE.imp (pe_andT (ha L rfl) (hb L rfl)) fun σ H Q q => ?_
  obtain ⟨F, ρ, r, q⟩ := rd.bind (VP1 := vE L) q
  refine ⟨F, ρ, r, q.imp fun v H1 ⟨F1, ρ1, d, r1, p1, q⟩ => ?_⟩
  cases e : hTru d with
  | none => rw [e] at q; exact absurd q (by intro z; exact z)
  | some k =>
    rw [e] at q
    refine ⟨k, hK ▸ truV_of r1.sub p1 e, ?_⟩
    cases k with
    | false => exact q v H1 F1 r1 (Same.refl _) p1
    | true => exact ⟨F1, ρ1, r1, q⟩
theorem ee_bone {op : BoolOp} (ha : EE X S W a ga) : EE X S W (.BoolOp op [a] pos) ga := fun L hL => pe_one (ha L hL)
theorem ee_not (hK : X.K = S.K) (ha : EE X S W a ga) : EE X S W (.UnaryOp .Not a pos) (cNot ga) := fun L hL => by
  subst hL
  refine PE.imp (pe_notT (ha L rfl)) fun σ H Q q => ?_
  obtain ⟨F, ρ, r, q⟩ := rd.bind (VP1 := vE L) q
  refine ⟨F, ρ, r, q.imp fun v H1 ⟨F1, ρ1, d, r1, p1, q⟩ => ?_⟩
  obtain ⟨z, e, q⟩ := post_lift q
  cases e2 : hTru d with
  | none => rw [e2] at e; cases e
  | some k => rw [e2] at e; cases e; exact ⟨k, hK ▸ truV_of r1.sub p1 e2, q _ H1 F1 r1 (Same.refl _) (.bl _)⟩
theorem ee_if (ht : ET X S W c ta) (ha : EE X S W a ga) (hb : EE X S W b gb) : EE X S W (.IfExp c a b pos) (cIf ta ga gb) := fun L hL => by
  subst hL
  refine PE.imp (pe_ifExp (ht L rfl) (ha L rfl) (hb L rfl)) fun σ H Q q => ?_
  obtain ⟨F, ρ, r, q⟩ := rd.bind (VP1 := vB) q
  refine ⟨F, ρ, r, q.imp fun v H1 ⟨F1, ρ1, d, r1, p1, q⟩ => ?_⟩
  subst p1
  cases v with
  | true => rw [if_pos rfl] at q ⊢; exact ⟨F1, ρ1, r1, q⟩
  | false => rw [if_neg Bool.false_ne_true] at q ⊢; exact ⟨F1, ρ1, r1, q⟩
theorem eo_if (ht : ET X S W c ta) (ha : EO X S W a ga) (hb : EO X S W b gb) : EO X S W (.IfExp c a b pos) (cIf ta ga gb) := fun L hL => by
  subst hL
  refine PE.imp (pe_ifExp (ht L rfl) (ha L rfl) (hb L rfl)) fun σ H Q q => ?_
  obtain ⟨F, ρ, r, q⟩ := rd.bind (VP1 := vB) q
  refine ⟨F, ρ, r, q.imp fun v H1 ⟨F1, ρ1, d, r1, p1, q⟩ => ?_⟩
  subst p1
  cases v with
  | true => rw [if_pos rfl] at q ⊢; exact ⟨F1, ρ1, r1, q⟩
  | false => rw [if_neg Bool.false_ne_true] at q ⊢; exact ⟨F1, ρ1, r1, q⟩

/-! ### tests -/
def EW (X : Cx) (S : Stc) (W : WX) (e : Expr) (g : M Bool) : Prop := ∀ L, L.S = S → PW X e (tT L W g)
theorem PW.imp {e : Expr} {t t' : TT} (h : PW X e t) (i : ∀ σ H Q, t' σ H Q → t σ H Q) : PW X e t' := ⟨fun whole pins s σ H Q I q => h.run whole pins s σ H Q I (i _ _ _ q)⟩
theorem EW.et {e : Expr} {g : M Bool} (h : EW X S W e g) : ET X S W e g := fun L hL => (h L hL).pt
theorem et_truth (hK : X.K = S.K) (ha : EE X S W a ga) (he : ∀ whole, isTrue a X.env whole = (do let v ← whole; standAt a.pos; holding [v] (truthy v))) : ET X S W a (toB ga) := fun L hL => by
  subst hL
  refine PT.imp (pt_truth (ha L rfl) he) fun σ H Q q => ?_
  obtain ⟨F, ρ, r, q⟩ := rd.bind (VP1 := vE L) q
  refine ⟨F, ρ, r, q.imp fun v H1 ⟨F1, ρ1, d, r1, p1, q⟩ => ?_⟩
  obtain ⟨k, e, q⟩ := post_lift q
  exact ⟨k, hK ▸ truV_of r1.sub p1 e, q _ H1 F1 r1 (Same.refl _) rfl⟩
theorem et_not (ha : ET X S W a ta) : ET X S W (.UnaryOp .Not a pos) (bNot ta) := fun L hL => by
  subst hL
  refine PT.imp (pt_not (ha L rfl)) fun σ H Q q => ?_
  obtain ⟨F, ρ, r, q⟩ := rd.bind (VP1 := vB) q
  refine ⟨F, ρ, r, q.imp fun v H1 ⟨F1, ρ1, d, r1, p1, q⟩ => ?_⟩
  subst p1
  exact q _ H1 F1 r1 (Same.refl _) rfl
theorem ew_one {op : BoolOp} (ha : ET X S W a ta) : EW X S W (.BoolOp op [a] pos) ta := fun L hL => by
  cases op with
  | And => exact pw_and1 (ha L hL)
  | Or => exact pw_or1 (ha L hL)
theorem ew_and (ha : ET X S W a ta) (hb : EW X S W (.BoolOp .And (b :: rest) pos) tb) : EW X S W (.BoolOp .And (a :: b :: rest) pos) (bAnd ta tb) := fun L hL => by
  subst hL
  refine PW.imp (pw_and (ha L rfl) (hb L rfl)) fun σ H Q q => ?_
  obtain ⟨F, ρ, r, q⟩ := rd.bind (VP1 := vB) q
  refine ⟨F, ρ, r, q.imp fun v H1 ⟨F1, ρ1, d, r1, p1, q⟩ => ?_⟩
  subst p1
  cases v with
  | true => rw [if_pos rfl] at q ⊢; exact ⟨F1, ρ1, r1, q⟩
  | false => rw [if_neg Bool.false_ne_true] at q ⊢; exact q _ H1 F1 r1 (Same.refl _) rfl
theorem ew_or (ha : ET X S W a ta) (hb : EW X S W (.BoolOp .Or (b :: rest) pos) tb) : EW X S W (.BoolOp .Or (a :: b :: rest) pos) (bOr ta tb) := fun L hL => by
  subst hL
  refine PW.imp (pw_or (ha L rfl) (hb L rfl)) fun σ H Q q => ?_
  obtain ⟨F, ρ, r, q⟩ := rd.bind (VP1 := vB) q
  refine ⟨F, ρ, r, q.imp fun v H1 ⟨F1, ρ1, d, r1, p1, q⟩ => ?_⟩
  subst p1
  cases v with
  | true => rw [if_pos rfl] at q ⊢; exact q _ H1 F1 r1 (Same.refl _) rfl
  | false => rw [if_neg Bool.false_ne_true] at q ⊢; exact ⟨F1, ρ1, r1, q⟩
/-- a comparison as a test: its value is a truth value -/
def boolD : Dat → Option Bool
  | .bool k => some k
  | _ => none
theorem boolD_some {d : Dat} {k : Bool} (e : boolD d = some k) : d = .bool k := by
  cases d <;> first | (cases e; rfl) | cases e
def boolO (o : Option Dat) : Option Bool := o.bind boolD
theorem boolO_some {o : Option Dat} {k : Bool} (e : boolO o = some k) : o = some (.bool k) := by
  cases o with
  | none => cases e
  | some d => rw [boolD_some (d := d) e]
def bCmp (h : Dat → Dat → Option Dat) (ga gb : M Dat) : M Bool := M.bind ga fun a => M.bind gb fun b => M.lift (boolO (h a b))
theorem et_cmp {op : CmpOp} {r : R2} {h : Dat → Dat → Option Dat} (ho : OpR X (compareOp op) r) (hh : OpE S r h) (ha : EE X S W a ga) (hb : EE X S W b gb) (hm : behindInMarks op b = false) : ET X S W (.Compare a [op] [b] pos) (bCmp h ga gb) := fun L hL => by
  subst hL
  refine PT.imp (pt_cmpR ho (ha L rfl) (hb L rfl) hm) fun σ H Q q => ?_
  obtain ⟨F, ρ, r0, q⟩ := rd.bind2 (VP1 := vE L) (VP2 := vE L) vE.keep q
  refine ⟨F, ρ, r0, q.imp fun v H1 ⟨F1, ρ1, r1, q⟩ => ⟨F1, ρ1, r1, q.imp fun v2 H2 ⟨F2, ρ2, a, a2, r2, h1, h2, q⟩ => ?_⟩⟩
  obtain ⟨k, e, q⟩ := post_lift q
  refine hh H2 F2 v v2 a a2 _ _ r2.sub h1 h2 (boolO_some e) ⟨fun v p => ?_, fun p o np z => nomatch z⟩
  cases p
  exact ⟨_, rfl, q _ H2 F2 r2 (Same.refl _) rfl⟩
theorem post_bind_lift {ω α β : Type} {L : LC} {σ : L2.St} {F : Hp} {VP : VPt ω α} {o : Option β} {k : β → M α} {ρ : Env} {Q : ω → Hp → Prop} (h : Post L W σ F VP (M.bind (M.lift o) k ρ) Q) : ∃ a, o = some a ∧ Post L W σ F VP (k a ρ) Q := by
  unfold M.bind M.lift at h
  cases o with
  | none => exact absurd h (by intro z; exact z)
  | some a => exact ⟨a, rfl, h⟩
/-- a op b op' c -/
def cChain (h h' : Dat → Dat → Option Dat) (ga gb gc : M Dat) : M Dat := M.bind ga fun a => M.bind gb fun b => M.bind (M.lift (boolO (h a b))) fun k => if k then M.bind gc fun c => M.lift (h' b c) else M.pure (.bool false)
theorem ee_chain {op op' : CmpOp} {r r' : R2} {h h' : Dat → Dat → Option Dat} (ho : OpR X (compareOp op) r) (hh : OpE S r h) (ho' : OpR X (compareOp op') r') (hh' : OpE S r' h') (ha : EE X S W a ga) (hb : EE X S W b gb) (hc : EE X S W c gc)
    (hm : lastMarks [op, op'] [b, c] = false) : EE X S W (.Compare a [op, op'] [b, c] pos) (cChain h h' ga gb gc) := fun L hL => by
  subst hL
  refine PE.imp (pe_chain ho ho' (ha L rfl) (hb L rfl) (hc L rfl) hm) fun σ H Q q => ?_
  obtain ⟨F, ρ, r0, q⟩ := rd.bind2 (VP1 := vE L) (VP2 := vE L) vE.keep q
  refine ⟨F, ρ, r0, q.imp fun v H1 ⟨F1, ρ1, r1, q⟩ => ⟨F1, ρ1, r1, q.imp fun v2 H2 ⟨F2, ρ2, a, a2, r2, h1, h2, q⟩ => ?_⟩⟩
  obtain ⟨k, e', q⟩ := post_bind_lift q
  refine hh H2 F2 v v2 a a2 _ _ r2.sub h1 h2 (boolO_some e') ⟨fun v p => ?_, fun p o np z => nomatch z⟩
  cases p
  refine ⟨k, rfl, ?_⟩
  cases k with
  | true =>
    rw [if_pos rfl] at q ⊢
    refine ⟨F2, ρ2, r2, (Post.bind (VP1 := vE L) q).imp fun v3 H3 ⟨F3, ρ3, d3, r3, s3, p3, q⟩ => ?_⟩
    obtain ⟨d, e, q⟩ := post_lift q
    exact hh' H3 F3 v2 v3 a2 d3 d _ r3.sub (h2.mono s3) p3 e (Kont.of r3 q)
  | false =>
    rw [if_neg Bool.false_ne_true] at q ⊢
    exact q _ H2 F2 r2 (Same.refl _) (.bl _)
def bVal (g : M Dat) : M Bool := M.bind g fun d => M.lift (boolD d)
theorem et_chain {op op' : CmpOp} {r r' : R2} {h h' : Dat → Dat → Option Dat} (ho : OpR X (compareOp op) r) (hh : OpE S r h) (ho' : OpR X (compareOp op') r') (hh' : OpE S r' h') (ha : EE X S W a ga) (hb : EE X S W b gb) (hc : EE X S W c gc)
    (hm : lastMarks [op, op'] [b, c] = false) : ET X S W (.Compare a [op, op'] [b, c] pos) (bVal (cChain h h' ga gb gc)) := fun L hL => by
  subst hL
  refine PT.imp (pt_chain ho ho' (ha L rfl) (hb L rfl) (hc L rfl) hm) fun σ H Q q => ?_
  -- the value's reading first, then the test
  obtain ⟨F, ρ, r0, q⟩ := q
  have q1 := Post.bind (VP1 := vE L) q
  have q2 : tE L W (cChain h h' ga gb gc) σ H (fun x H' => ∃ k, x = .bl k ∧ Q k H') := by
    refine ⟨F, ρ, r0, q1.imp fun v H1 ⟨F1, ρ1, d, r1, s1, p1, q⟩ => ?_⟩
    obtain ⟨k, e, q⟩ := post_lift q
    rw [boolD_some e] at p1
    cases p1
    exact ⟨_, rfl, q _ H1 F1 r1 (Same.refl _) rfl⟩
  have q3 := q2
  obtain ⟨F, ρ, r0, q⟩ := rd.bind2 (VP1 := vE L) (VP2 := vE L) vE.keep q3
  refine ⟨F, ρ, r0, q.imp fun v H1 ⟨F1, ρ1, r1, q⟩ => ⟨F1, ρ1, r1, q.imp fun v2 H2 ⟨F2, ρ2, a, a2, r2, h1, h2, q⟩ => ?_⟩⟩
  obtain ⟨k, e', q⟩ := post_bind_lift q
  refine hh H2 F2 v v2 a a2 _ _ r2.sub h1 h2 (boolO_some e') ⟨fun v p => ?_, fun p o np z => nomatch z⟩
  cases p
  refine ⟨k, rfl, ?_⟩
  cases k with
  | true =>
    rw [if_pos rfl] at q ⊢
    refine ⟨F2, ρ2, r2, (Post.bind (VP1 := vE L) q).imp fun v3 H3 ⟨F3, ρ3, d3, r3, s3, p3, q⟩ => ?_⟩
    obtain ⟨d, e, q⟩ := post_lift q
    exact hh' H3 F3 v2 v3 a2 d3 d _ r3.sub (h2.mono s3) p3 e (Kont.of r3 q)
  | false =>
    rw [if_neg Bool.false_ne_true] at q ⊢
    exact q _ H2 F2 r2 (Same.refl _) (.bl _)
end
end L2.PV
set_option Elab.async false
set_option linter.all false
set_option maxRecDepth 100000
set_option maxHeartbeats 1000000
namespace L2.PV
open PySem PySem.Spec PyProof.Rows
/-! ### argument lists, displays -/
def cNil : M (List Dat) := M.pure []
def cCons (g : M Dat) (gs : M (List Dat)) : M (List Dat) := M.bind g fun d => M.bind gs fun ds => M.pure (d :: ds)
def itemsOf : Dat → Option (List Dat)
  | .tuple ds => some ds
  | .list ds => some ds
  | _ => none
def cStar (g : M Dat) (gs : M (List Dat)) : M (List Dat) := M.bind g fun d => M.bind (M.lift (itemsOf d)) fun es => M.bind gs fun ds => M.pure (es ++ ds)
def hTupOf (ds : List Dat) : Option Dat := if ds.length ≤ lineN then some (.tuple ds) else none
def hLstOf (ds : List Dat) : Option Dat := if ds.length ≤ lineN then some (.list ds) else none
def cTup (gs : M (List Dat)) : M Dat := M.bind gs fun ds => M.lift (hTupOf ds)
def cLst (gs : M (List Dat)) : M Dat := M.bind gs fun ds => M.lift (hLstOf ds)
section
variable {S : Stc} {X : Cx} {W : WX} {e : Expr} {es : List Expr} {g : M Dat} {gs : M (List Dat)} {pos p : Pos}
theorem ea_nil : EA X S W [] cNil := fun L hL => PA.imp pa_nil fun σ H Q ⟨F, ρ, r, q⟩ => q [] H F r (Same.refl _) .nil
theorem tAs_cons {L : LC} : ∀ σ H Q, tAs L W (cCons g gs) σ H Q → tCons (tE L W g) (tAs L W gs) σ H Q := fun σ H Q q => by
  obtain ⟨F, ρ, r0, q⟩ := rd.bind2 (VP1 := vE L) (VP2 := vA L) vE.keep q
  refine ⟨F, ρ, r0, q.imp fun v H1 ⟨F1, ρ1, r1, q⟩ => ⟨F1, ρ1, r1, q.imp fun v2 H2 ⟨F2, ρ2, a, a2, r2, h1, h2, q⟩ => ?_⟩⟩
  exact q _ H2 F2 r2 (Same.refl _) (.cons h1 h2)
theorem ea_cons (ha : EE X S W e g) (hr : EA X S W es gs) (hs : starEach (e :: es) X.env = (false, eval e X.env) :: starEach es X.env) : EA X S W (e :: es) (cCons g gs) := fun L hL => by
  subst hL
  exact PA.imp (pa_cons (ha L rfl) (hr L rfl) hs) tAs_cons
theorem ea_star (hK : X.K = S.K) (ha : EE X S W e g) (hr : EA X S W es gs) (hs : starEach (.Starred e p :: es) X.env = (true, eval e X.env) :: starEach es X.env) : EA X S W (.Starred e p :: es) (cStar g gs) := fun L hL => by
  subst hL
  refine PA.imp (StX.pa_star (ha L rfl) (hr L rfl) hs) fun σ H Q q => ?_
  obtain ⟨F, ρ, r, q⟩ := rd.bind (VP1 := vE L) q
  refine ⟨F, ρ, r, q.imp fun v H1 ⟨F1, ρ1, d, r1, p1, q⟩ => ?_⟩
  obtain ⟨es', e', q'⟩ := post_bind_lift q
  have q2 : Post L W σ F1 (vA L) (M.bind gs (fun ds => M.pure (es' ++ ds)) ρ1) Q := q'
  clear q q'
  cases d with
  | tuple ds =>
    cases e'
    cases p1 with
    | tup h1 h2 =>
      refine ⟨_, _, rfl, .inl (hK ▸ sqt_mono r1.sub h1), F1, ρ1, r1, (Post.bind (VP1 := vA L) q2).imp fun ws H2 ⟨F2, ρ2, ds2, r2, s2, p2, q⟩ => ?_⟩
      exact q _ H2 F2 r2 (Same.refl _) ((h2.mono s2).append p2)
  | list ds =>
    cases e'
    cases p1 with
    | lst h1 h2 =>
      refine ⟨_, _, rfl, .inr (SqL.of (r1.sub _ _ h1)), F1, ρ1, r1, (Post.bind (VP1 := vA L) q2).imp fun ws H2 ⟨F2, ρ2, ds2, r2, s2, p2, q⟩ => ?_⟩
      exact q _ H2 F2 r2 (Same.refl _) ((h2.mono s2).append p2)
  | _ => cases e'
theorem ee_tup {x1 : Nat} (h : EA X S W es gs) : EE X S W (.Tuple es x1 pos) (cTup gs) := fun L hL => by
  subst hL
  refine PE.imp (pe_tup (h L rfl)) fun σ H Q q => ?_
  obtain ⟨F, ρ, r, q⟩ := rd.bind (VP1 := vA L) q
  refine ⟨F, ρ, r, q.imp fun v H1 ⟨F1, ρ1, ds, r1, p1, q⟩ => ?_⟩
  obtain ⟨d, e, q⟩ := post_lift q
  unfold hTupOf at e
  split at e
  · rename_i hz
    cases e
    exact ⟨by rw [line_eq, p1.length]; exact hz, fun p np => (Kont.of r1 q).2 p _ np (.tup (SqT.of upd_same) (p1.mono (upd_same' (r1.free np))))⟩
  · cases e
theorem eo_lst (h : EA X S W es gs) : EO X S W (.List es pos) (cLst gs) := fun L hL => by
  subst hL
  refine PE.imp (pe_lst (h L rfl)) fun σ H Q q => ?_
  obtain ⟨F, ρ, r, q⟩ := rd.bind (VP1 := vA L) q
  refine ⟨F, ρ, r, q.imp fun v H1 ⟨F1, ρ1, ds, r1, p1, q⟩ => ?_⟩
  obtain ⟨d, e, q⟩ := post_lift q
  unfold hLstOf at e
  split at e
  · rename_i hz
    cases e
    exact ⟨by rw [line_eq, p1.length]; exact hz, fun p np => (KontO.of r1 q).2.2 p _ _ rfl np p1⟩
  · cases e
end

/-! ### subscripts, slices -/
def hIx : Dat → Dat → Option Dat
  | .list ds, .int i => atI ds i
  | .tuple ds, .int i => atI ds i
  | .str z, .int i => if z.length ≤ lineN then (atI z.cps.toList i).map fun c => .str ⟨#[c]⟩ else none
  | .dict [(.none, .list ds)], .int i => atI ds i
  | _, _ => none
theorem RpA.atI {K : PySem.W.Frag} {G : Str → Option Addr} {F : Hp} {vs : List V} {ds : List Dat} {i : Int} {d : Dat} (h : RpA K G F vs ds) (e : L2.atI ds i = some d) : ∃ v, L2.atI vs i = some v ∧ Rp K G F v d := by
  unfold L2.atI at e ⊢
  rw [h.length]
  cases c : ixN ds.length i with
  | none => rw [c] at e; cases e
  | some j =>
    rw [c] at e
    exact h.get (i := j) e
section
variable {S : Stc} {X : Cx} {W : WX} {a b : Expr} {ga gb : M Dat} {pos p2 : Pos}
theorem ixE : OpE S (rIx S.K) hIx := by
  intro H F x y dx dy d Q s px py e k
  unfold hIx at e
  split at e
  · cases px with
    | lst h r =>
      cases py
      obtain ⟨v, e1, e2⟩ := r.atI e
      exact .inl ⟨_, _, _, v, rfl, rfl, SqL.of (s _ _ h), e1, k.1 _ e2⟩
  · cases px with
    | tup h r =>
      cases py
      obtain ⟨v, e1, e2⟩ := r.atI e
      exact .inr (.inl ⟨_, _, _, v, rfl, rfl, sqt_mono s h, e1, k.1 _ e2⟩)
  · split at e
    · rename_i hz
      cases px
      cases py
      rename_i z i
      cases c : L2.atI z.cps.toList i with
      | none => rw [c] at e; cases e
      | some q =>
        rw [c] at e
        cases e
        exact .inr (.inr ⟨_, _, q, rfl, rfl, by rw [line_eq]; exact hz, c, k.1 _ (.str _)⟩)
    · cases e
  · cases px with
    | scr h r =>
      cases py
      obtain ⟨v, e1, e2⟩ := r.atI e
      exact .inl ⟨_, _, _, v, rfl, rfl, s.seq h, e1, k.1 _ e2⟩
  · cases e
theorem ee_ix (hK : X.K = S.K) (ha : EE X S W a ga) (hb : EE X S W b gb) (hs : PlainIx b) : EE X S W (.Subscript a b pos) (cBin hIx ga gb) := fun L hL => by
  subst hL
  refine PE.imp (pe_ix ix_seq (ha L rfl) (hb L rfl) hs) (tOp_e ?_)
  rw [hK]
  exact ixE
/-- a part of a slice -/
def intOf : Dat → Option Int
  | .int i => some i
  | _ => none
abbrev tP (L : LC) (W : WX) (g : M (Option Int)) : TO := rd L W (fun _ _ _ _ a b => a = b) g
def EP' (X : Cx) (S : Stc) (W : WX) (e : Option Expr) (g : M (Option Int)) : Prop := ∀ L, L.S = S → PO X e (tP L W g)
def pNone : M (Option Int) := M.pure none
def pSome (g : M Dat) : M (Option Int) := M.bind g fun d => M.lift ((intOf d).map some)
theorem PO.imp {e : Option Expr} {t t' : TO} (h : PO X e t) (i : ∀ σ H Q, t' σ H Q → t σ H Q) : PO X e t' := ⟨fun pins s σ H Q I q => h.run pins s σ H Q I (i _ _ _ q)⟩
theorem ep_none : EP' X S W none pNone := fun L hL => PO.imp po_none fun σ H Q ⟨F, ρ, r, q⟩ => q none H F r (Same.refl _) rfl
theorem ep_some (h : EE X S W a ga) : EP' X S W (some a) (pSome ga) := fun L hL => by
  subst hL
  refine PO.imp (po_some (h L rfl)) fun σ H Q q => ?_
  obtain ⟨F, ρ, r, q⟩ := rd.bind (VP1 := vE L) q
  refine ⟨F, ρ, r, q.imp fun v H1 ⟨F1, ρ1, d, r1, p1, q⟩ => ?_⟩
  obtain ⟨o, e, q⟩ := post_lift q
  cases d with
  | int i => cases e; cases p1; exact ⟨i, rfl, q _ H1 F1 r1 (Same.refl _) rfl⟩
  | _ => cases e
def cutD (ds : List Dat) (lo hi : Option Int) : List Dat := (ds.drop (HT.sIx ds.length 0 lo)).take (HT.sIx ds.length ds.length hi - HT.sIx ds.length 0 lo)
def hSl (d : Dat) (lo hi : Option Int) : Option Dat := match d with
  | .list ds => some (.list (cutD ds lo hi))
  | .tuple ds => some (.tuple (cutD ds lo hi))
  | .str z => if z.length ≤ lineN then some (.str (cutS z lo hi)) else none
  | .dict [(.none, .list ds)] => some (.list (cutD ds lo hi))
  | _ => none
theorem RpA.cut {K : PySem.W.Frag} {G : Str → Option Addr} {F : Hp} {vs : List V} {ds : List Dat} (lo hi : Option Int) (h : RpA K G F vs ds) : RpA K G F (cutV vs lo hi) (cutD ds lo hi) := by
  unfold cutV cutD
  rw [h.length]
  exact (h.drop _).take _
theorem cutD_whole {ds : List Dat} {lo hi : Option Int} (h : HT.sIx ds.length 0 lo = 0 ∧ HT.sIx ds.length ds.length hi = ds.length) : cutD ds lo hi = ds := by
  unfold cutD
  rw [h.1, h.2, List.drop_zero, Nat.sub_zero, List.take_length]
def rSlX (K : PySem.W.Frag) : V → Option Int → Option Int → Hp → VK → Prop := fun x lo hi H Q => rSlL K x lo hi H Q ∨ rSlA K x lo hi H Q ∨ rSlS x lo hi H Q
theorem sl_all : SlR X (rSlX X.K) := SlR.or sl_list (SlR.or sl_tupA sl_str)
theorem slO {H F : Hp} {x : V} {dx d : Dat} {lo hi : Option Int} {Q : VK} (s : Same F H) (px : Rp S.K S.G F x dx) (e : hSl dx lo hi = some d) (k : KontO S H F d Q) : rSlX S.K x lo hi H Q := by
  unfold hSl at e
  split at e
  · cases e
    cases px with
    | lst h r => exact .inl ⟨_, _, rfl, SqL.of (s _ _ h), fun p np => k.2.2 _ _ _ rfl np (r.cut lo hi)⟩
  · cases e
    cases px with
    | tup h r =>
      refine .inr (.inl ⟨_, _, rfl, sqt_mono s h, fun w => ?_, fun _ p np => ?_⟩)
      · rw [r.length] at w
        exact k.1 nl _ (by rw [cutD_whole w]; exact .tup h r)
      · exact k.2.1 nl _ _ np (.tup (SqT.of upd_same) ((r.cut lo hi).mono (upd_same' (s.free np))))
  · split at e
    · rename_i hz
      cases e
      cases px
      exact .inr (.inr ⟨_, rfl, by rw [line_eq]; exact hz, k.1 nls _ (.str _)⟩)
    · cases e
  · cases e
    cases px with
    | scr h r => exact .inl ⟨_, _, rfl, s.seq h, fun p np => k.2.2 _ _ _ rfl np (r.cut lo hi)⟩
  · cases e
def cSl (g : M Dat) (lo hi : M (Option Int)) : M Dat := M.bind g fun d => M.bind lo fun i => M.bind hi fun j => M.lift (hSl d i j)
theorem eo_slice {lo hi : Option Expr} {gl gh : M (Option Int)} (hK : X.K = S.K) (ha : EE X S W a ga) (hl : EP' X S W lo gl) (hh : EP' X S W hi gh) : EO X S W (.Subscript a (.Slice lo hi none p2) pos) (cSl ga gl gh) := fun L hL => by
  subst hL
  refine PE.imp (pe_slice sl_all (ha L rfl) (hl L rfl) (hh L rfl)) fun σ H Q q => ?_
  obtain ⟨F, ρ, r, q⟩ := rd.bind3 (VP1 := vE L) (VP2 := fun _ _ _ _ a b => a = b) (VP3 := fun _ _ _ _ a b => a = b) vE.keep (fun _ _ _ _ _ _ _ _ _ _ h => h) q
  refine ⟨F, ρ, r, q.imp fun v H1 ⟨F1, ρ1, r1, q⟩ => ⟨F1, ρ1, r1, q.imp fun i H2 ⟨F2, ρ2, r2, q⟩ => ⟨F2, ρ2, r2, q.imp fun j H3 ⟨F3, ρ3, d, i', j', r3, h1, h2, h3, q⟩ => ?_⟩⟩⟩
  subst h2
  subst h3
  obtain ⟨d', e, q⟩ := post_lift q
  rw [hK]
  exact slO r3.sub h1 e (KontO.of r3 q)
end

/-! ### calls of built-ins by values -/
def CallD (S : Stc) (r : List V → Hp → VK → Prop) (h : List Dat → Option Dat) : Prop := ∀ H F xs ds d Q, Same F H → RpA S.K S.G F xs ds → h ds = some d → Kont S H F d Q → r xs H Q
def CallO (S : Stc) (r : List V → Hp → VK → Prop) (h : List Dat → Option Dat) : Prop := ∀ H F xs ds d Q, Same F H → RpA S.K S.G F xs ds → h ds = some d → KontO S H F d Q → r xs H Q
theorem CallO.e {S : Stc} {r : List V → Hp → VK → Prop} {h : List Dat → Option Dat} (a : CallO S r h) : CallD S r h := fun H F xs ds d Q s p e k => a H F xs ds d Q s p e (k.o s)
def cCB (h : List Dat → Option Dat) (gs : M (List Dat)) : M Dat := M.bind gs fun ds => M.lift (h ds)
section
variable {S : Stc} {X : Cx} {W : WX} {e : Expr} {es : List Expr} {gs : M (List Dat)} {pos p : Pos} {x : Str} {id T : String} {r : List V → Hp → VK → Prop} {h : List Dat → Option Dat}
theorem tCB_e {L : LC} (hc : CallD L.S r h) : ∀ σ H Q, tE L W (cCB h gs) σ H Q → tCB r (tAs L W gs) σ H Q := fun σ H Q q => by
  obtain ⟨F, ρ, r0, q⟩ := rd.bind (VP1 := vA L) q
  refine ⟨F, ρ, r0, q.imp fun v H1 ⟨F1, ρ1, ds, r1, p1, q⟩ => ?_⟩
  obtain ⟨d, e, q⟩ := post_lift q
  exact hc H1 F1 v ds d Q r1.sub p1 e (Kont.of r1 q)
theorem tCB_o {L : LC} (hc : CallO L.S r h) : ∀ σ H Q, tO L W (cCB h gs) σ H Q → tCB r (tAs L W gs) σ H Q := fun σ H Q q => by
  obtain ⟨F, ρ, r0, q⟩ := rd.bind (VP1 := vA L) q
  refine ⟨F, ρ, r0, q.imp fun v H1 ⟨F1, ρ1, ds, r1, p1, q⟩ => ?_⟩
  obtain ⟨d, e, q⟩ := post_lift q
  exact hc H1 F1 v ds d Q r1.sub p1 e (KontO.of r1 q)
theorem ee_callB (hr : CallR X (.builtin id) r) (hh : CallD S r h) (hg : Gl X x) (hm : X.mg x = none) (hv : bootBuiltins x = some (.builtin id)) (ha : EA X S W (e :: es) gs) (hn : x ≠ "__name__") (hdb : (x == ("__debug__" : Str)) = false)
    (he : starEach (e :: es) X.env = (false, eval e X.env) :: starEach es X.env) (hpl : (backTo pos (starEach es X.env)).any (·.1) = false) : EE X S W (.Call (.Name x p) (e :: es) [] pos) (cCB h gs) := fun L hL => by
  subst hL
  exact PE.imp (pe_callB hr hg hm hv (ha L rfl) hn hdb he hpl) (tCB_e hh)
theorem eo_callB (hr : CallR X (.builtin id) r) (hh : CallO S r h) (hg : Gl X x) (hm : X.mg x = none) (hv : bootBuiltins x = some (.builtin id)) (ha : EA X S W (e :: es) gs) (hn : x ≠ "__name__") (hdb : (x == ("__debug__" : Str)) = false)
    (he : starEach (e :: es) X.env = (false, eval e X.env) :: starEach es X.env) (hpl : (backTo pos (starEach es X.env)).any (·.1) = false) : EO X S W (.Call (.Name x p) (e :: es) [] pos) (cCB h gs) := fun L hL => by
  subst hL
  exact PE.imp (pe_callB hr hg hm hv (ha L rfl) hn hdb he hpl) (tCB_o hh)
theorem ee_callTy (hr : CallR X (.type T) r) (hh : CallD S r h) (hg : Gl X x) (hm : X.mg x = none) (hv : bootBuiltins x = some (.type T)) (ha : EA X S W (e :: es) gs) (hn : x ≠ "__name__") (hdb : (x == ("__debug__" : Str)) = false)
    (he : starEach (e :: es) X.env = (false, eval e X.env) :: starEach es X.env) (hpl : (backTo pos (starEach es X.env)).any (·.1) = false) : EE X S W (.Call (.Name x p) (e :: es) [] pos) (cCB h gs) := fun L hL => by
  subst hL
  exact PE.imp (pe_callTy hr hg hm hv (ha L rfl) hn hdb he hpl) (tCB_e hh)
theorem eo_callTy (hr : CallR X (.type T) r) (hh : CallO S r h) (hg : Gl X x) (hm : X.mg x = none) (hv : bootBuiltins x = some (.type T)) (ha : EA X S W (e :: es) gs) (hn : x ≠ "__name__") (hdb : (x == ("__debug__" : Str)) = false)
    (he : starEach (e :: es) X.env = (false, eval e X.env) :: starEach es X.env) (hpl : (backTo pos (starEach es X.env)).any (·.1) = false) : EO X S W (.Call (.Name x p) (e :: es) [] pos) (cCB h gs) := fun L hL => by
  subst hL
  exact PE.imp (pe_callTy hr hg hm hv (ha L rfl) hn hdb he hpl) (tCB_o hh)
end
end L2.PV
set_option Elab.async false
set_option linter.all false
set_option maxRecDepth 100000
set_option maxHeartbeats 1000000
namespace L2.PV
open PySem PySem.Spec PyProof.Rows
/-! ### built-ins -/
def hLen : List Dat → Option Dat
  | [.str y] => if y.length ≤ lineN then some (.int y.length) else none
  | [.list ds] => some (.int ds.length)
  | [.tuple ds] => some (.int ds.length)
  | [.dict [(.none, .list ds)]] => some (.int ds.length)
  | _ => none
def hAbs : List Dat → Option Dat
  | [.int i] => some (.int (if i < 0 then -i else i))
  | _ => none
def hInt : List Dat → Option Dat
  | [.int i] => some (.int i)
  | [.bool b] => some (.int (if b then 1 else 0))
  | _ => none
def signs (z : Str) : List Dat := z.cps.toList.map fun c => .str ⟨#[c]⟩
def hList : List Dat → Option Dat
  | [.list ds] => some (.list ds)
  | [.tuple ds] => some (.list ds)
  | [.str z] => if z.length ≤ lineN then some (.list (signs z)) else none
  | _ => none
def hTuple : List Dat → Option Dat
  | [.list ds] => some (.tuple ds)
  | [.tuple ds] => some (.tuple ds)
  | _ => none
def intsOf : List Dat → Option (List Int)
  | [] => some []
  | .int i :: ds => (intsOf ds).map (i :: ·)
  | _ => none
def boolsOf : List Dat → Option (List Bool)
  | [] => some []
  | .bool i :: ds => (boolsOf ds).map (i :: ·)
  | _ => none
def hSum : List Dat → Option Dat
  | [.list ds] => (intsOf ds).map fun ns => .int ns.sum
  | _ => none
def hAny : List Dat → Option Dat
  | [.list ds] => (boolsOf ds).map fun ns => .bool (ns.any id)
  | _ => none
def hAll : List Dat → Option Dat
  | [.list ds] => (boolsOf ds).map fun ns => .bool (ns.all id)
  | _ => none
section
variable {S : Stc} {X : Cx}
theorem intsOf_v {K : PySem.W.Frag} {G : Str → Option Addr} {F : Hp} : ∀ {vs : List V} {ds : List Dat} {ns : List Int}, RpA K G F vs ds → intsOf ds = some ns → vs = ns.map V.int
  | _, _, _, .nil, e => by cases e; rfl
  | _, .none :: _, _, .cons _ _, e => by cases e
  | _, .bool _ :: _, _, .cons _ _, e => by cases e
  | _, .str _ :: _, _, .cons _ _, e => by cases e
  | _, .list _ :: _, _, .cons _ _, e => by cases e
  | _, .tuple _ :: _, _, .cons _ _, e => by cases e
  | _, .dict _ :: _, _, .cons _ _, e => by cases e
  | _, .int i :: ds, ns, .cons h r, e => by
    unfold intsOf at e
    cases c : intsOf ds with
    | none => rw [c] at e; cases e
    | some ms =>
      rw [c] at e
      cases e
      cases h
      rw [intsOf_v r c] <;> rfl
theorem boolsOf_v {K : PySem.W.Frag} {G : Str → Option Addr} {F : Hp} : ∀ {vs : List V} {ds : List Dat} {ns : List Bool}, RpA K G F vs ds → boolsOf ds = some ns → vs = ns.map V.bl
  | _, _, _, .nil, e => by cases e; rfl
  | _, .none :: _, _, .cons _ _, e => by cases e
  | _, .int _ :: _, _, .cons _ _, e => by cases e
  | _, .str _ :: _, _, .cons _ _, e => by cases e
  | _, .list _ :: _, _, .cons _ _, e => by cases e
  | _, .tuple _ :: _, _, .cons _ _, e => by cases e
  | _, .dict _ :: _, _, .cons _ _, e => by cases e
  | _, .bool i :: ds, ns, .cons h r, e => by
    unfold boolsOf at e
    cases c : boolsOf ds with
    | none => rw [c] at e; cases e
    | some ms =>
      rw [c] at e
      cases e
      cases h
      rw [boolsOf_v r c] <;> rfl
theorem rpa1 {K : PySem.W.Frag} {G : Str → Option Addr} {F : Hp} {xs : List V} {d : Dat} (h : RpA K G F xs [d]) : ∃ v, xs = [v] ∧ Rp K G F v d := by
  cases h with
  | cons a r => cases r; exact ⟨_, rfl, a⟩
def rLenA (K : PySem.W.Frag) : List V → Hp → VK → Prop := fun xs H Q => ∃ x n, xs = [x] ∧ LenV K x H n ∧ Q (.int n) H
theorem lenD : CallD S (rLenA S.K) hLen := by
  intro H F xs ds d Q s p e k
  unfold hLen at e
  split at e
  · split at e
    · rename_i hz
      obtain ⟨v, rfl, pv⟩ := rpa1 p
      cases e; cases pv
      rename_i y
      exact ⟨.str y, y.length, rfl, ⟨by rw [line_eq]; exact hz, rfl⟩, k.1 _ (.int _)⟩
    · cases e
  · obtain ⟨v, rfl, pv⟩ := rpa1 p
    cases e
    cases pv with
    | lst h r => exact ⟨_, _, rfl, .inl ⟨_, SqL.of (s _ _ h), rfl⟩, by rw [r.length]; exact k.1 _ (.int _)⟩
  · obtain ⟨v, rfl, pv⟩ := rpa1 p
    cases e
    cases pv with
    | tup h r => exact ⟨_, _, rfl, .inr ⟨_, sqt_mono s h, rfl⟩, by rw [r.length]; exact k.1 _ (.int _)⟩
  · obtain ⟨v, rfl, pv⟩ := rpa1 p
    cases e
    cases pv with
    | scr h r => exact ⟨_, _, rfl, .inl ⟨_, s.seq h, rfl⟩, by rw [r.length]; exact k.1 _ (.int _)⟩
  · cases e
theorem absD : CallD S (fun xs H Q => ∃ i, xs = [.int i] ∧ Q (.int (if i < 0 then -i else i)) H) hAbs := by
  intro H F xs ds d Q s p e k
  unfold hAbs at e
  split at e
  · obtain ⟨v, rfl, pv⟩ := rpa1 p
    cases e; cases pv
    exact ⟨_, rfl, k.1 _ (.int _)⟩
  · cases e
theorem intD : CallD S (fun xs H Q => (∃ i, xs = [.int i] ∧ Q (.int i) H) ∨ ∃ k, xs = [.bl k] ∧ Q (.int (if k then 1 else 0)) H) hInt := by
  intro H F xs ds d Q s p e k
  unfold hInt at e
  split at e
  · obtain ⟨v, rfl, pv⟩ := rpa1 p
    cases e; cases pv
    exact .inl ⟨_, rfl, k.1 _ (.int _)⟩
  · obtain ⟨v, rfl, pv⟩ := rpa1 p
    cases e; cases pv
    exact .inr ⟨_, rfl, k.1 _ (.int _)⟩
  · cases e
/-- list(text) -/
def signV (z : Str) : List V := z.cps.toList.map fun c => V.str ⟨#[c]⟩
theorem signs_rp {K : PySem.W.Frag} {G : Str → Option Addr} {F : Hp} : ∀ cs : List Nat, RpA K G F (cs.map fun c => V.str ⟨#[c]⟩) (cs.map fun c => PyData.str ⟨#[c]⟩)
  | [] => .nil
  | c :: cs => .cons (.str _) (signs_rp cs)
theorem call_list_sign (hc : X.calm = true) : CallR X (.type "list") (fun xs H Q => ∃ z, xs = [.str z] ∧ z.length ≤ sizeLine ∧ ∀ l, H l = none → Q (.ref l) (upd H l (.lst (signV z)))) := by
  intro pins s σ H xs us Q I r h
  obtain ⟨z, rfl, hz, q⟩ := h
  obtain ⟨u, rfl, t, rfl⟩ := vals1 r
  refine call_list_str (I.ok.hd hc) z t (fun h' tk acc c k e it => ?_) (by exact hz)
  have hv : Vals (signV z) acc.toList := by
    have hl : acc.size = z.cps.size := it.1
    refine vals_of_at (by unfold signV; rw [List.length_map, Array.length_toList, Array.length_toList, hl]) fun j x u hx hu => ?_
    have hj : j < z.cps.size := by
      have := (List.getElem?_eq_some_iff.mp hu).1
      rw [Array.length_toList, hl] at this
      exact this
    unfold signV at hx
    rw [List.getElem?_map, Array.getElem?_toList] at hx
    rw [Array.getElem?_toList] at hu
    obtain ⟨c1, hc1, hc2⟩ := Option.map_eq_some_iff.mp hx
    subst hc2
    obtain ⟨c2, tk2, h1, h2⟩ := it.2 j u hu
    rw [hc1] at h1
    cases h1
    exact ⟨tk2, h2⟩
  have hlen : (signV z).length ≤ sizeLine := by unfold signV; rw [List.length_map, Array.length_toList]; exact hz
  have ob : ObjOk X.prog X.w (upd H s.heap.objs.size (.lst (signV z))) h' s.heap.objs.size (.lst (signV z)) := ⟨hlen, acc.toList, c, hv, e⟩
  exact ⟨.ref _, _, I.laid (t' := tk) k (Nat.le_refl _) ob, rfl, q _ I.fresh⟩
def rListA (K : PySem.W.Frag) : List V → Hp → VK → Prop := fun xs H Q => (∃ p ys, xs = [.ref p] ∧ (SqL K H p ys ∨ SqT K H p ys) ∧ ∀ l, H l = none → Q (.ref l) (upd H l (.lst ys))) ∨ (∃ z, xs = [.str z] ∧ z.length ≤ sizeLine ∧ ∀ l, H l = none → Q (.ref l) (upd H l (.lst (signV z))))
theorem call_listA (hc : X.calm = true) : CallR X (.type "list") (rListA X.K) := CallR.or call_list_of (call_list_sign hc)
theorem listO : CallO S (rListA S.K) hList := by
  intro H F xs ds d Q s p e k
  unfold hList at e
  split at e
  · obtain ⟨v, rfl, pv⟩ := rpa1 p
    cases e
    cases pv with
    | lst h r => exact .inl ⟨_, _, rfl, .inl (SqL.of (s _ _ h)), fun l nl => k.2.2 _ _ _ rfl nl r⟩
  · obtain ⟨v, rfl, pv⟩ := rpa1 p
    cases e
    cases pv with
    | tup h r => exact .inl ⟨_, _, rfl, .inr (sqt_mono s h), fun l nl => k.2.2 _ _ _ rfl nl r⟩
  · split at e
    · rename_i hz
      obtain ⟨v, rfl, pv⟩ := rpa1 p
      cases e
      cases pv
      exact .inr ⟨_, rfl, by rw [line_eq]; exact hz, fun l nl => k.2.2 _ _ _ rfl nl (signs_rp _)⟩
    · cases e
  · cases e
def rTupleA (K : PySem.W.Frag) : List V → Hp → VK → Prop := fun xs H Q => ∃ p ys, xs = [.ref p] ∧ ((SqL K H p ys ∧ ∀ l, H l = none → Q (.ref l) (upd H l (.tup ys))) ∨ (SqT K H p ys ∧ Q (.ref p) H))
theorem tupleD : CallD S (rTupleA S.K) hTuple := by
  intro H F xs ds d Q s p e k
  unfold hTuple at e
  split at e
  · obtain ⟨v, rfl, pv⟩ := rpa1 p
    cases e
    cases pv with
    | lst h r => exact ⟨_, _, rfl, .inl ⟨SqL.of (s _ _ h), fun l nl => k.2 _ _ nl (.tup (SqT.of upd_same) (r.mono (upd_same' (s.free nl))))⟩⟩
  · obtain ⟨v, rfl, pv⟩ := rpa1 p
    cases e
    cases pv with
    | tup h r => exact ⟨_, _, rfl, .inr ⟨sqt_mono s h, k.1 _ (.tup h r)⟩⟩
  · cases e
theorem sumD : CallD S (rSum S.K) hSum := by
  intro H F xs ds d Q s p e k
  unfold hSum at e
  split at e
  · rename_i ds
    obtain ⟨v, rfl, pv⟩ := rpa1 p
    cases c : intsOf ds with
    | none => rw [c] at e; cases e
    | some ns =>
      rw [c] at e
      cases e
      cases pv with
      | lst h r => exact ⟨_, ns, rfl, by rw [← intsOf_v r c]; exact SqL.of (s _ _ h), k.1 _ (.int _)⟩
  · cases e
theorem anyD : CallD S (rAny S.K) hAny := by
  intro H F xs ds d Q s p e k
  unfold hAny at e
  split at e
  · rename_i ds
    obtain ⟨v, rfl, pv⟩ := rpa1 p
    cases c : boolsOf ds with
    | none => rw [c] at e; cases e
    | some ns =>
      rw [c] at e
      cases e
      cases pv with
      | lst h r => exact ⟨_, ns, rfl, by rw [← boolsOf_v r c]; exact SqL.of (s _ _ h), k.1 _ (.bl _)⟩
  · cases e
theorem allD : CallD S (rAll S.K) hAll := by
  intro H F xs ds d Q s p e k
  unfold hAll at e
  split at e
  · rename_i ds
    obtain ⟨v, rfl, pv⟩ := rpa1 p
    cases c : boolsOf ds with
    | none => rw [c] at e; cases e
    | some ns =>
      rw [c] at e
      cases e
      cases pv with
      | lst h r => exact ⟨_, ns, rfl, by rw [← boolsOf_v r c]; exact SqL.of (s _ _ h), k.1 _ (.bl _)⟩
  · cases e

/-! ### sorted -/
def alikeAllB (ds : List Dat) : Bool := ds.all fun d => ds.all fun e => PySem.W.alike d e
def isTup1 : Dat → Bool
  | .tuple (_ :: _) => true
  | _ => false
def isTup : Dat → Bool
  | .tuple _ => true
  | _ => false
/-- what sorted takes -/
def sortable (ds : List Dat) : Bool := decide (ds.length ≤ lineN) && alikeAllB ds && ds.all notNone && ds.all shaped && (decide (ds.length < 2) || ds.all isTup1 || ds.all fun d => !isTup d)
noncomputable def sortD (ds : List Dat) : List Dat := ds.mergeSort (PySem.W.dataLe false id)
noncomputable def hSorted1 : List Dat → Option Dat
  | [.list ds] => if sortable ds then some (.list (sortD ds)) else none
  | _ => none
theorem rpa_pairs {K : PySem.W.Frag} {G : Str → Option Addr} {F : Hp} : ∀ {l : List (V × Dat)}, (∀ p ∈ l, Rp K G F p.1 p.2) → RpA K G F (l.map Prod.fst) (l.map Prod.snd)
  | [], _ => .nil
  | p :: l, h => .cons (h p (List.mem_cons_self ..)) (rpa_pairs fun q hq => h q (List.mem_cons_of_mem _ hq))
theorem rpa_zip {K : PySem.W.Frag} {G : Str → Option Addr} {F : Hp} : ∀ {vs : List V} {ds : List Dat}, RpA K G F vs ds → ∀ p ∈ vs.zip ds, Rp K G F p.1 p.2
  | _, _, .nil, p, h => by simp at h
  | _, _, .cons h r, p, q => by
    rw [List.zip_cons_cons] at q
    rcases List.mem_cons.mp q with rfl | q
    · exact h
    · exact rpa_zip r p q
theorem each_vals : ∀ {xs : List V} {us : List Value} {ds : List Dat}, Vals xs us → xs.length = ds.length → PySem.W.EachIs (fun u (b : V × Dat) => RelV b.1 u) us (xs.zip ds)
  | _, _, [], .nil, _ => .nil
  | _, _, d :: ds, .cons r t, h => by
    rw [List.zip_cons_cons]
    exact .cons r (each_vals t (by simpa using h))
theorem vals_each : ∀ {us : List Value} {bs : List (V × Dat)}, PySem.W.EachIs (fun u (b : V × Dat) => RelV b.1 u) us bs → Vals (bs.map Prod.fst) us
  | _, _, .nil => .nil
  | _, _, .cons r t => .cons r (vals_each t)
theorem each_reads {h : Heap} : ∀ {us : List Value} {ds : List Dat} {as : List Addr} {xs : List V}, ReadsAll h us ds as → xs.length = ds.length → PySem.W.EachIs (fun u (b : V × Dat) => ∃ as, Reads h u b.2 as) us (xs.zip ds)
  | _, [], _, [], r, _ => by cases r; exact .nil
  | _, [], _, _ :: _, r, e => by simp at e
  | _, d :: ds, _, [], r, e => by simp at e
  | _, d :: ds, _, x :: xs, r, e => by
    cases r with
    | cons r t =>
      rw [List.zip_cons_cons]
      exact .cons ⟨_, r⟩ (each_reads t (by simpa using e))
theorem zip_snd {xs : List V} {ds : List Dat} (h : xs.length = ds.length) : (xs.zip ds).map Prod.snd = ds := List.map_snd_zip (by omega)
theorem dpall_len {K : PySem.W.Frag} {H : Hp} : ∀ {vs : List V} {ds : List Dat}, DpAll K H vs ds → vs.length = ds.length
  | _, _, .nil => rfl
  | _, _, .cons _ r => congrArg (· + 1) (dpall_len r)
noncomputable def sortP (l : List (V × Dat)) : List (V × Dat) := l.mergeSort (PySem.W.dataLe false Prod.snd)
theorem sortP_snd (l : List (V × Dat)) : (sortP l).map Prod.snd = sortD (l.map Prod.snd) := List.map_mergeSort fun a _ b _ => rfl
/-- a kind of comparison that no list of fewer than two asks for -/
theorem sorts_short {prog : Program} {w : World} {A : Around} {s : Shared} {vs : List Value} {ds : List PyData} (e : PySem.W.EachIs (fun v d => ∃ as, Reads s.heap v d as) vs ds) (hal : PySem.W.AllAlike ds) (hn : ∀ d ∈ ds, d ≠ .none) (h2 : ds.length < 2) (hu : ∀ d, d ∈ ds → A.units + d.depth < cLine) : PySem.W.SortsAt prog w A s (PySem.W.dataKind s.heap ds) vs := by
  refine ⟨fun v hv => ?_, ⟨PyProof.Rows.general', ?_, fun z => ?_⟩⟩
  · obtain ⟨d, hd, as, r⟩ := e.left v hv
    exact ⟨_, PySem.W.dataKind_some hal hd r⟩
  · intro E x y a b Q ha hb hq
    obtain ⟨d, as, hd, ra, rfl⟩ := PySem.W.dataKind_inv ha
    obtain ⟨d', as', hd', rb, rfl⟩ := PySem.W.dataKind_inv hb
    have room : A.units + min d.depth d'.depth < cLine := Nat.lt_of_le_of_lt (Nat.add_le_add_left (Nat.min_le_left _ _) _) (hu d hd)
    show wpAny _ _ (PyProof.Rows.oneLt' false x y) _ _ _
    exact PySem.W.oneLt_alike (fun z => by cases z) ra rb (hal d hd d' hd') (hn d hd) room hq
  · rw [e.length] at z; omega
theorem alikeAll_of {ds : List Dat} (h : alikeAllB ds = true) : PySem.W.AllAlike ds := fun d hd e he => by
  have := List.all_eq_true.mp (List.all_eq_true.mp h d hd) e he
  exact this
theorem isTup1_of {d : Dat} (h : isTup1 d = true) : ∃ x r, d = .tuple (x :: r) := by
  cases d with
  | tuple xs => cases xs with
    | nil => cases h
    | cons x r => exact ⟨x, r, rfl⟩
  | _ => cases h
theorem isTup_of {d : Dat} (h : (!isTup d) = true) : ∀ xs, d ≠ .tuple xs := fun xs z => by subst z; cases h
def rSortA (K : PySem.W.Frag) : List V → Hp → VK → Prop := fun vs H Q => ∃ (a : Addr) (xs : List V) (ds : List Dat), vs = [V.ref a] ∧ SqL K H a xs ∧ DpAll K H xs ds ∧ sortable ds = true ∧ ∀ p, H p = none → Q (.ref p) (upd H p (.lst ((sortP (xs.zip ds)).map Prod.fst)))
theorem cr_sortA (hu : X.A.units + 70 < cLine) : CallR X (.builtin "sorted") (rSortA X.K) := by
  intro pins s σ H vs us Q I r h
  obtain ⟨a, xs, ds, rfl, hs, hd, hso, q⟩ := h
  obtain ⟨its, rv, pl, hz⟩ := I.list hs
  rw [Vals.ref1 r]
  obtain ⟨as, hr⟩ := Dp.readsAll I ds xs its hd rv
  have hl := dpall_len hd
  unfold sortable at hso
  simp only [Bool.and_eq_true, Bool.or_eq_true, decide_eq_true_eq] at hso
  obtain ⟨⟨⟨⟨h1, h2⟩, h3⟩, h4⟩, h5⟩ := hso
  have dep : ∀ d ∈ ds, d.depth ≤ 64 := fun d hd => by
    have := List.all_eq_true.mp h4 d hd
    unfold shaped SeqAt.shaped at this
    rw [Bool.and_eq_true] at this
    exact of_decide_eq_true this.2
  have hal := alikeAll_of h2
  have hn : ∀ d ∈ ds, d ≠ .none := fun d hd => notNone_ne (List.all_eq_true.mp h3 d hd)
  have ev := each_vals (ds := ds) rv hl
  have er := each_reads (xs := xs) hr hl
  have em : (xs.zip ds).map Prod.snd = ds := zip_snd hl
  have lz : (xs.zip ds).length = ds.length := by rw [← em, List.length_map, em]
  have fin : ∀ out : List Value, out.length = (xs.zip ds).length → PySem.W.EachIs (fun u (b : V × Dat) => RelV b.1 u) out ((xs.zip ds).mergeSort (PySem.W.dataLe false Prod.snd)) →
      EP X pins σ Q (.ref (s.heap.objs.size + 1)) { s with heap := PyProof.Rows.sortedAll s.heap its (List.toArray out) } := fun out e1 e2 => by
    obtain ⟨ep, he'⟩ := PyProof.Rows.sortedAll_at s.heap its (List.toArray out)
    have rv' := vals_each e2
    have hlen : ((sortP (xs.zip ds)).map Prod.fst).length ≤ sizeLine := by
      unfold sortP
      rw [List.length_map, List.length_mergeSort, lz, line_eq]; exact h1
    have ob : ObjOk X.prog X.w (upd H (s.heap.objs.size + 1) (.lst ((sortP (xs.zip ds)).map Prod.fst))) (PyProof.Rows.sortedAll s.heap its (List.toArray out)) (s.heap.objs.size + 1) (.lst ((sortP (xs.zip ds)).map Prod.fst)) := ⟨hlen, out, ep, rv', by simpa using he'⟩
    exact ⟨.ref _, _, I.laid (t' := s.toks) (fun _ _ => PyProof.Rows.sortedAll_old) (Nat.le_succ _) ob, rfl, q _ (I.hok.fresh (Nat.le_succ _))⟩
  have hb : ∀ b ∈ xs.zip ds, X.A.units + 2 + b.2.depth < cLine := fun b hb => by
    have hm : b.2 ∈ ds := by rw [← em]; exact List.mem_map_of_mem hb
    have := dep _ hm
    omega
  rcases h5 with (h5 | h5) | h5
  · have er' : PySem.W.EachIs (fun v b => ∃ as, Reads (PySem.W.sortingHeap (PySem.W.copyHeap s.heap its) (s.heap.objs.size + 1) its) v b.2 as) its (xs.zip ds) := er.mono fun _ _ ⟨as, r⟩ => ⟨as, PyProof.Rows.Reads.keeps (fun _ _ => PySem.W.sorting_copy_old) r⟩
    have hal' : PySem.W.AllAlike ((xs.zip ds).map Prod.snd) := by rw [em]; exact hal
    refine PySem.W.sorted_vals (κ := PySem.W.dataKind (PySem.W.sortingHeap (PySem.W.copyHeap s.heap its) (s.heap.objs.size + 1) its) ((xs.zip ds).map Prod.snd)) pl.isList (sorts_short (s := { s with heap := PySem.W.sortingHeap (PySem.W.copyHeap s.heap its) (s.heap.objs.size + 1) its }) (PySem.W.each_map (R := fun v d => ∃ as, Reads (PySem.W.sortingHeap (PySem.W.copyHeap s.heap its) (s.heap.objs.size + 1) its) v d as) Prod.snd er') hal' ?_ ?_ ?_) (by rw [← rv.length]; exact hz) ?_
    · rw [em]; exact hn
    · rw [em]; exact h5
    · rw [em]
      intro d hd'
      have := dep d hd'
      show X.A.units + 1 + 1 + d.depth < cLine
      omega
    · exact fin _ (by rw [PySem.W.sortVals_length false rfl, ← rv.length, lz, hl]) (PySem.W.sortVals_data false ev er' hal')
  · refine PySem.W.sorted_data (R := fun u (b : V × Dat) => RelV b.1 u) (enc := Prod.snd) pl.isList ev er (by rw [em]; exact hal) (by rw [em]; exact .inl fun d hd => isTup1_of (List.all_eq_true.mp h5 d hd)) (by rw [lz, line_eq]; exact h1) hb fin
  · refine PySem.W.sorted_data (R := fun u (b : V × Dat) => RelV b.1 u) (enc := Prod.snd) pl.isList ev er (by rw [em]; exact hal) (by rw [em]; exact .inr fun d hd => ⟨hn d hd, isTup_of (List.all_eq_true.mp h5 d hd)⟩) (by rw [lz, line_eq]; exact h1) hb fin
theorem sortable_plain {ds : List Dat} (h : sortable ds = true) : plains ds = true := by
  unfold sortable at h
  simp only [Bool.and_eq_true] at h
  obtain ⟨⟨_, h4⟩, _⟩ := h
  have : ∀ l : List Dat, l.all shaped = true → plains l = true := fun l => by
    induction l with
    | nil => intro _; rfl
    | cons d l ih =>
      intro hl
      rw [List.all_cons, Bool.and_eq_true] at hl
      simp only [plains, Bool.and_eq_true]
      exact ⟨plain_of_shaped hl.1, ih hl.2⟩
  exact this ds h4
theorem sortedO : CallO S (rSortA S.K) hSorted1 := by
  intro H F xs ds d Q s p e k
  unfold hSorted1 at e
  split at e
  · split at e
    · rename_i hso
      obtain ⟨v, rfl, pv⟩ := rpa1 p
      cases e
      cases pv with
      | lst h r =>
        refine ⟨_, _, _, rfl, SqL.of (s _ _ h), r.dp s _ (sortable_plain hso), hso, fun l nl => k.2.2 _ _ _ rfl nl ?_⟩
        rename_i ds' a xs'
        have e1 : sortD ds' = (sortP (xs'.zip ds')).map Prod.snd := by rw [sortP_snd, zip_snd r.length]
        rw [e1]
        exact rpa_pairs fun q hq => rpa_zip r q (by unfold sortP at hq; exact (List.mem_mergeSort.mp hq))
    · cases e
  · cases e
end
end L2.PV
set_option Elab.async false
set_option linter.all false
set_option maxRecDepth 100000
set_option maxHeartbeats 1000000
namespace L2.PV
open PySem PySem.Spec PyProof.Rows
/-! ### what a for walks -/
/-- the iterator draws the data ds, whatever else goes on -/
def IterOk (S : Stc) (J : It) (ds : List Dat) (F0 : Hp) : Prop := ∀ (L : LC), L.S = S → ∀ (i : Nat) (σ : L2.St) (H F : Hp) (ρ : Env), Rel L σ H F ρ → Same F0 F →
  (∀ d, ds[i]? = some d → J.go i H ∧ ∀ x H', J.yld i H x H' → ∃ F', Rel L σ H' F' ρ ∧ Same F F' ∧ Rp L.S.K L.S.G F' x d) ∧ (ds[i]? = none → J.stop i H)
def vI (S : Stc) : VPt It (List Dat) := fun _ _ _ F J ds => IterOk S J ds F
def EI (X : Cx) (S : Stc) (W : WX) (tg e : Expr) (g : M (List Dat)) : Prop := ∀ L, L.S = S → PI X tg e (rd L W (vI S) g)
section
variable {S : Stc} {F : Hp}
theorem iterOk_list {a : Addr} {xs : List V} {ds : List Dat} (h : SqL S.K F a xs) (r : RpA S.K S.G F xs ds) : IterOk S (Itl S.K a) ds F := fun L hL i σ H F1 ρ rl s => by
  subst hL
  have hs := (s.trans rl.sub).seq h
  refine ⟨fun d hd => ?_, fun hn => ?_⟩
  · obtain ⟨v, e1, e2⟩ := r.get hd
    refine ⟨⟨xs, v, hs, e1⟩, fun x H' hy => ?_⟩
    obtain ⟨rfl, hx⟩ := hy
    have := hx xs hs
    rw [e1] at this; cases this
    exact ⟨F1, rl, Same.refl _, e2.mono s⟩
  · exact ⟨xs, hs, by rw [r.length]; exact List.getElem?_eq_none_iff.mp hn⟩
theorem iterOk_tup {a : Addr} {xs : List V} {ds : List Dat} (h : SqT S.K F a xs) (r : RpA S.K S.G F xs ds) : IterOk S (Itt S.K a) ds F := fun L hL i σ H F1 ρ rl s => by
  subst hL
  have hs := sqt_mono (s.trans rl.sub) h
  refine ⟨fun d hd => ?_, fun hn => ?_⟩
  · obtain ⟨v, e1, e2⟩ := r.get hd
    refine ⟨⟨xs, v, hs, e1⟩, fun x H' hy => ?_⟩
    obtain ⟨rfl, hx⟩ := hy
    have := hx xs hs
    rw [e1] at this; cases this
    exact ⟨F1, rl, Same.refl _, e2.mono s⟩
  · exact ⟨xs, hs, by rw [r.length]; exact List.getElem?_eq_none_iff.mp hn⟩
theorem iterOk_str {z : Str} : IterOk S (Its z) (signs z) F := fun L hL i σ H F1 ρ rl s => by
  subst hL
  unfold signs
  refine ⟨fun d hd => ?_, fun hn => ?_⟩
  · rw [List.getElem?_map, Array.getElem?_toList] at hd
    obtain ⟨c, e1, e2⟩ := Option.map_eq_some_iff.mp hd
    refine ⟨(Array.getElem?_eq_some_iff.mp e1).1, fun x H' hy => ?_⟩
    obtain ⟨rfl, c', e3, e4⟩ := hy
    rw [e1] at e3; cases e3
    subst e4; subst e2
    exact ⟨F1, rl, Same.refl _, .str _⟩
  · rw [List.getElem?_map, Array.getElem?_toList] at hn
    have := Option.map_eq_none_iff.mp hn
    exact Array.getElem?_eq_none_iff.mp this
def rangeD (lo : Int) (n : Nat) : List Dat := (List.range n).map fun i => .int (lo + (i : Nat))
theorem iterOk_range {lo : Int} {n : Nat} : IterOk S (Itr lo n) (rangeD lo n) F := fun L hL i σ H F1 ρ rl s => by
  subst hL
  unfold rangeD
  refine ⟨fun d hd => ?_, fun hn => ?_⟩
  · rw [List.getElem?_map] at hd
    obtain ⟨c, e1, e2⟩ := Option.map_eq_some_iff.mp hd
    have h1 : i < n := by
      have := (List.getElem?_eq_some_iff.mp e1).1
      rwa [List.length_range] at this
    rw [List.getElem?_range h1] at e1
    cases e1
    subst e2
    refine ⟨h1, fun x H' hy => ?_⟩
    obtain ⟨rfl, e4⟩ := hy
    subst e4
    exact ⟨F1, rl, Same.refl _, .int _⟩
  · rw [List.getElem?_map] at hn
    have := Option.map_eq_none_iff.mp hn
    have := List.getElem?_eq_none_iff.mp this
    rw [List.length_range] at this
    exact this
def enumD (ds : List Dat) : List Dat := ds.zipIdx.map fun p => .tuple [.int (p.2 : Nat), p.1]
theorem iterOk_enum {a : Addr} {xs : List V} {ds : List Dat} (h : SqL S.K F a xs) (r : RpA S.K S.G F xs ds) : IterOk S (Ite S.K a) (enumD ds) F := fun L hL i σ H F1 ρ rl s => by
  subst hL
  have hs := (s.trans rl.sub).seq h
  unfold enumD
  refine ⟨fun d hd => ?_, fun hn => ?_⟩
  · rw [List.getElem?_map, List.getElem?_zipIdx] at hd
    obtain ⟨c, e1, e2⟩ := Option.map_eq_some_iff.mp hd
    obtain ⟨d0, e3, e4⟩ := Option.map_eq_some_iff.mp e1
    obtain ⟨v, e5, e6⟩ := r.get e3
    subst e4
    subst e2
    refine ⟨⟨xs, v, hs, e5⟩, fun x H' hy => ?_⟩
    obtain ⟨T, x', rfl, hT, rfl, hx⟩ := hy
    have := hx xs hs
    rw [e5] at this; cases this
    have z := upd_same' (o := HO.tup [.int (i : Nat), v]) (rl.free hT)
    refine ⟨_, rl.laid hT, z, .tup (SqT.of upd_same) (.cons ?_ (.cons ((e6.mono s).mono z) .nil))⟩
    rw [Nat.zero_add]
    exact .int _
  · rw [List.getElem?_map, List.getElem?_zipIdx] at hn
    have := Option.map_eq_none_iff.mp (Option.map_eq_none_iff.mp hn)
    exact ⟨xs, hs, by rw [r.length]; exact List.getElem?_eq_none_iff.mp this⟩
def zipD (ds es : List Dat) : List Dat := (ds.zip es).map fun p => .tuple [p.1, p.2]
theorem zip_get {α β : Type} : ∀ (l : List α) (m : List β) (i : Nat), (l.zip m)[i]? = (l[i]?.bind fun a => m[i]?.map fun b => (a, b))
  | [], m, i => by simp
  | a :: l, [], i => by cases h : (a :: l)[i]? <;> simp
  | a :: l, b :: m, 0 => rfl
  | a :: l, b :: m, i + 1 => by rw [List.zip_cons_cons, List.getElem?_cons_succ, List.getElem?_cons_succ, List.getElem?_cons_succ]; exact zip_get l m i
theorem zip_some {α β : Type} {l : List α} {m : List β} {i : Nat} {p : α × β} (h : (l.zip m)[i]? = some p) : l[i]? = some p.1 ∧ m[i]? = some p.2 := by
  rw [zip_get] at h
  cases h1 : l[i]? with
  | none => rw [h1] at h; cases h
  | some a =>
    cases h2 : m[i]? with
    | none => rw [h1, h2] at h; cases h
    | some b => rw [h1, h2] at h; cases h; exact ⟨rfl, rfl⟩
theorem zip_none {α β : Type} {l : List α} {m : List β} {i : Nat} (h : (l.zip m)[i]? = none) : l.length ≤ i ∨ m.length ≤ i := by
  have := List.getElem?_eq_none_iff.mp h
  rw [List.length_zip] at this
  omega
theorem iterOk_zipL {a b : Addr} {xs ys : List V} {ds es : List Dat} (h : SqL S.K F a xs) (r : RpA S.K S.G F xs ds) (h2 : SqL S.K F b ys) (r2 : RpA S.K S.G F ys es) : IterOk S (Itz S.K a b) (zipD ds es) F := fun L hL i σ H F1 ρ rl s => by
  subst hL
  have hs := (s.trans rl.sub).seq h
  have hs2 := (s.trans rl.sub).seq h2
  unfold zipD
  refine ⟨fun d hd => ?_, fun hn => ?_⟩
  · rw [List.getElem?_map] at hd
    obtain ⟨c, e1, e2⟩ := Option.map_eq_some_iff.mp hd
    obtain ⟨e3, e4⟩ := zip_some e1
    obtain ⟨v, e5, e6⟩ := r.get e3
    obtain ⟨v2, e7, e8⟩ := r2.get e4
    subst e2
    refine ⟨⟨xs, ys, v, v2, hs, hs2, e5, e7⟩, fun x H' hy => ?_⟩
    obtain ⟨T, x', y', rfl, hT, rfl, hx, hy⟩ := hy
    have := hx xs hs
    rw [e5] at this; cases this
    have := hy ys hs2
    rw [e7] at this; cases this
    have z := upd_same' (o := HO.tup [v, v2]) (rl.free hT)
    exact ⟨_, rl.laid hT, z, .tup (SqT.of upd_same) (.cons ((e6.mono s).mono z) (.cons ((e8.mono s).mono z) .nil))⟩
  · rw [List.getElem?_map] at hn
    have := zip_none (Option.map_eq_none_iff.mp hn)
    exact ⟨xs, ys, hs, hs2, by rw [r.length, r2.length]; exact this⟩
theorem iterOk_zipT {a b : Addr} {xs ys : List V} {ds es : List Dat} (h : SqT S.K F a xs) (r : RpA S.K S.G F xs ds) (h2 : SqT S.K F b ys) (r2 : RpA S.K S.G F ys es) : IterOk S (RZ.ItzT S.K a b) (zipD ds es) F := fun L hL i σ H F1 ρ rl s => by
  subst hL
  have hs := sqt_mono (s.trans rl.sub) h
  have hs2 := sqt_mono (s.trans rl.sub) h2
  unfold zipD
  refine ⟨fun d hd => ?_, fun hn => ?_⟩
  · rw [List.getElem?_map] at hd
    obtain ⟨c, e1, e2⟩ := Option.map_eq_some_iff.mp hd
    obtain ⟨e3, e4⟩ := zip_some e1
    obtain ⟨v, e5, e6⟩ := r.get e3
    obtain ⟨v2, e7, e8⟩ := r2.get e4
    subst e2
    refine ⟨⟨xs, ys, v, v2, hs, hs2, e5, e7⟩, fun x H' hy => ?_⟩
    obtain ⟨T, x', y', rfl, hT, rfl, hx, hy⟩ := hy
    have := hx xs hs
    rw [e5] at this; cases this
    have := hy ys hs2
    rw [e7] at this; cases this
    have z := upd_same' (o := HO.tup [v, v2]) (rl.free hT)
    exact ⟨_, rl.laid hT, z, .tup (SqT.of upd_same) (.cons ((e6.mono s).mono z) (.cons ((e8.mono s).mono z) .nil))⟩
  · rw [List.getElem?_map] at hn
    have := zip_none (Option.map_eq_none_iff.mp hn)
    exact ⟨xs, ys, hs, hs2, by rw [r.length, r2.length]; exact this⟩
end
section
variable {X : Cx} {S : Stc} {W : WX} {tg e e2 : Expr} {g : M Dat} {gs : M (List Dat)} {p pos tpos : Pos} {elts : List Expr} {kk : Nat}
/-- a list, a tuple, a text -/
def iSeq (K : PySem.W.Frag) (te : TE) : TI := fun σ H R => te σ H fun x H1 => (∃ a xs, x = .ref a ∧ SqL K H1 a xs ∧ R (Itl K a) H1) ∨ (∃ a xs, x = .ref a ∧ SqT K H1 a xs ∧ R (Itt K a) H1) ∨ (∃ z, x = .str z ∧ R (Its z) H1)
theorem pi_seq {te : TE} (he : PE X e te) : PI X tg e (iSeq X.K te) := by
  refine ⟨fun pins s σ H R I h => ?_⟩
  refine thn (he.run pins s σ H _ I h) fun v s1 ⟨x, H1, I1, r1, q1⟩ => ?_
  rcases q1 with ⟨a, xs, ex, hq, q⟩ | ⟨a, xs, ex, hq, q⟩ | ⟨x, ex, q⟩
  · subst ex
    cases r1
    obtain ⟨its, rv, p, hz⟩ := I1.list hq
    refine wpAny_pyIter_list p.isList ?_
    refine ⟨s1.heap.objs.size, [s1.heap.objs.size], _, _, H1, rfl, I1.kept (t' := s1.toks) fun b o e => Heap.get?_push_of_some _ e, turn_list a _, ⟨_, Heap.get?_push_size _ rfl, rfl, rfl⟩, fun b hb => ?_, q⟩
    have e : b = s1.heap.objs.size := by simpa using hb
    subst e
    exact I1.fpOk (Nat.le_refl _) (I1.hok.fresh (Nat.le_refl _))
  · subst ex
    cases r1
    obtain ⟨its, rv, p, hz⟩ := I1.tuple hq
    refine wpAny_pyIter_tuple (show s1.heap.IsTuple a its.toArray from p) ?_
    refine ⟨s1.heap.objs.size, [s1.heap.objs.size], _, _, H1, rfl, I1.kept (t' := s1.toks) fun b o e => Heap.get?_push_of_some _ e, turn_tuple a _, ⟨_, Heap.get?_push_size _ rfl, rfl, rfl⟩, fun b hb => ?_, q⟩
    have e : b = s1.heap.objs.size := by simpa using hb
    subst e
    exact I1.fpOk (Nat.le_refl _) (I1.hok.fresh (Nat.le_refl _))
  · subst ex
    obtain ⟨t, rfl⟩ := r1
    cases ha : x.cps.all (· < 128)
    · exact wpAny_pyIter_wide ha (pi_one (tk := s1.toks) I1 _ (turn_str _ x t "str_iterator" (.inr rfl)) ⟨_, Heap.get?_push_size _ rfl, rfl, rfl⟩ q)
    · exact wpAny_pyIter_ascii ha (pi_one (tk := s1.toks) I1 _ (turn_str _ x t "str_ascii_iterator" (.inl rfl)) ⟨_, Heap.get?_push_size _ rfl, rfl, rfl⟩ q)
theorem PIE_imp {t t' : TI} (h : PI X tg e t) (i : ∀ σ H Q, t' σ H Q → t σ H Q) : PI X tg e t' := ⟨fun pins s σ H Q I q => h.run pins s σ H Q I (i _ _ _ q)⟩
/-- the items that a for draws of a datum -/
def drawn : Dat → Option (List Dat)
  | .list ds => some ds
  | .tuple ds => some ds
  | .str z => some (signs z)
  | _ => none
def iE (g : M Dat) : M (List Dat) := M.bind g fun d => M.lift (drawn d)
theorem ei_seq (hK : X.K = S.K) (he : EE X S W e g) : EI X S W tg e (iE g) := fun L hL => by
  subst hL
  refine PIE_imp (pi_seq (he L rfl)) fun σ H Q q => ?_
  obtain ⟨F, ρ, r, q⟩ := rd.bind (VP1 := vE L) q
  refine ⟨F, ρ, r, q.imp fun v H1 ⟨F1, ρ1, d, r1, p1, q⟩ => ?_⟩
  obtain ⟨ds, e', q⟩ := post_lift q
  cases d with
  | list es =>
    cases e'
    cases p1 with
    | lst h h2 => exact .inl ⟨_, _, rfl, SqL.of (r1.sub _ _ h), q _ H1 F1 r1 (Same.refl _) (hK ▸ iterOk_list (SqL.of h) h2)⟩
  | tuple es =>
    cases e'
    cases p1 with
    | tup h h2 => exact .inr (.inl ⟨_, _, rfl, hK ▸ sqt_mono r1.sub h, q _ H1 F1 r1 (Same.refl _) (hK ▸ iterOk_tup h h2)⟩)
  | str z =>
    cases e'
    cases p1
    exact .inr (.inr ⟨_, rfl, q _ H1 F1 r1 (Same.refl _) iterOk_str⟩)
  | _ => cases e'
end
end L2.PV
set_option Elab.async false
set_option linter.all false
set_option maxRecDepth 100000
set_option maxHeartbeats 1000000
namespace L2.PV
open PySem PySem.Spec PyProof.Rows
/-! ### more walks -/
def iR1 (gs : M (List Dat)) : M (List Dat) := M.bind gs fun ds => M.lift (match ds with
  | [.int j] => if -(2 ^ 62) ≤ j ∧ j < 2 ^ 62 then some (rangeD 0 j.toNat) else none
  | _ => none)
def iR2 (gs : M (List Dat)) : M (List Dat) := M.bind gs fun ds => M.lift (match ds with
  | [.int i, .int j] => if (-(2 ^ 62) ≤ i ∧ i < 2 ^ 62) ∧ -(2 ^ 62) ≤ j ∧ j < 2 ^ 62 then some (rangeD i (j - i).toNat) else none
  | _ => none)
def iEnumD (gs : M (List Dat)) : M (List Dat) := M.bind gs fun ds => M.lift (match ds with
  | [.list es] => some (enumD es)
  | _ => none)
def iZipD (gs : M (List Dat)) : M (List Dat) := M.bind gs fun ds => M.lift (match ds with
  | [.list es, .list fs] => some (zipD es fs)
  | [.tuple es, .tuple fs] => some (zipD es fs)
  | _ => none)
section
variable {X : Cx} {S : Stc} {W : WX} {tg a b : Expr} {gs : M (List Dat)} {p pos tpos : Pos} {elts : List Expr} {kk : Nat}
theorem rpa2 {K : PySem.W.Frag} {G : Str → Option Addr} {F : Hp} {xs : List V} {d e : Dat} (h : RpA K G F xs [d, e]) : ∃ v w, xs = [v, w] ∧ Rp K G F v d ∧ Rp K G F w e := by
  cases h with
  | cons a r => cases r with
    | cons b r => cases r; exact ⟨_, _, rfl, a, b⟩
theorem ei_range1 (hg : Gl X "range") (hm : X.mg "range" = none) (ha : EA X S W [a] gs) (hs : starEach [a] X.env = [(false, eval a X.env)]) : EI X S W tg (.Call (.Name "range" p) [a] [] pos) (iR1 gs) := fun L hL => by
  subst hL
  refine PIE_imp (pi_range1 hg hm (ha L rfl) hs) fun σ H Q q => ?_
  obtain ⟨F, ρ, r, q⟩ := rd.bind (VP1 := vA L) q
  refine ⟨F, ρ, r, q.imp fun v H1 ⟨F1, ρ1, ds, r1, p1, q⟩ => ?_⟩
  obtain ⟨es, e', q⟩ := post_lift q
  split at e'
  · split at e'
    · rename_i hz
      obtain ⟨v, rfl, pv⟩ := rpa1 p1
      cases e'
      cases pv
      exact ⟨_, rfl, hz.1, hz.2, q _ H1 F1 r1 (Same.refl _) iterOk_range⟩
    · cases e'
  · cases e'
theorem ei_range2 (hg : Gl X "range") (hm : X.mg "range" = none) (ha : EA X S W [a, b] gs) (hs : starEach [a, b] X.env = [(false, eval a X.env), (false, eval b X.env)]) (hs2 : starEach [b] X.env = [(false, eval b X.env)]) : EI X S W tg (.Call (.Name "range" p) [a, b] [] pos) (iR2 gs) := fun L hL => by
  subst hL
  refine PIE_imp (pi_range2 hg hm (ha L rfl) hs hs2) fun σ H Q q => ?_
  obtain ⟨F, ρ, r, q⟩ := rd.bind (VP1 := vA L) q
  refine ⟨F, ρ, r, q.imp fun v H1 ⟨F1, ρ1, ds, r1, p1, q⟩ => ?_⟩
  obtain ⟨es, e', q⟩ := post_lift q
  split at e'
  · split at e'
    · rename_i hz
      obtain ⟨v, w, rfl, pv, pw⟩ := rpa2 p1
      cases e'
      cases pv
      cases pw
      exact ⟨_, _, rfl, ⟨hz.1.1, hz.1.2, hz.2.1, hz.2.2⟩, q _ H1 F1 r1 (Same.refl _) iterOk_range⟩
    · cases e'
  · cases e'
theorem ei_enum (hK : X.K = S.K) (hg : Gl X "enumerate") (hm : X.mg "enumerate" = none) (ha : EA X S W [a] gs) (hs : starEach [a] X.env = [(false, eval a X.env)]) : EI X S W (.Tuple elts kk tpos) (.Call (.Name "enumerate" p) [a] [] pos) (iEnumD gs) := fun L hL => by
  subst hL
  refine PIE_imp (pi_enum hg hm (ha L rfl) hs) fun σ H Q q => ?_
  obtain ⟨F, ρ, r, q⟩ := rd.bind (VP1 := vA L) q
  refine ⟨F, ρ, r, q.imp fun v H1 ⟨F1, ρ1, ds, r1, p1, q⟩ => ?_⟩
  obtain ⟨es, e', q⟩ := post_lift q
  split at e'
  · obtain ⟨v, rfl, pv⟩ := rpa1 p1
    cases e'
    cases pv with
    | lst h h2 => exact ⟨_, _, rfl, SqL.of (r1.sub _ _ h), q _ H1 F1 r1 (Same.refl _) (hK ▸ iterOk_enum (SqL.of h) h2)⟩
  · cases e'
theorem ei_zip (hK : X.K = S.K) (hg : Gl X "zip") (hm : X.mg "zip" = none) (ha : EA X S W [a, b] gs) (hs : starEach [a, b] X.env = (false, eval a X.env) :: starEach [b] X.env) (hpl : (backTo pos (starEach [b] X.env)).any (·.1) = false) : EI X S W (.Tuple elts kk tpos) (.Call (.Name "zip" p) [a, b] [] pos) (iZipD gs) := fun L hL => by
  subst hL
  refine PIE_imp (RZ.pi_zipA hg hm (ha L rfl) hs hpl) fun σ H Q q => ?_
  obtain ⟨F, ρ, r, q⟩ := rd.bind (VP1 := vA L) q
  refine ⟨F, ρ, r, q.imp fun v H1 ⟨F1, ρ1, ds, r1, p1, q⟩ => ?_⟩
  obtain ⟨es, e', q⟩ := post_lift q
  split at e'
  · obtain ⟨v, w, rfl, pv, pw⟩ := rpa2 p1
    cases e'
    cases pv with
    | lst h h2 => cases pw with
      | lst h3 h4 => exact ⟨_, _, _, _, rfl, .inl ⟨SqL.of (r1.sub _ _ h), SqL.of (r1.sub _ _ h3), q _ H1 F1 r1 (Same.refl _) (hK ▸ iterOk_zipL (SqL.of h) h2 (SqL.of h3) h4)⟩⟩
  · obtain ⟨v, w, rfl, pv, pw⟩ := rpa2 p1
    cases e'
    cases pv with
    | tup h h2 => cases pw with
      | tup h3 h4 => exact ⟨_, _, _, _, rfl, .inr ⟨hK ▸ sqt_mono r1.sub h, hK ▸ sqt_mono r1.sub h3, q _ H1 F1 r1 (Same.refl _) (hK ▸ iterOk_zipT h h2 h3 h4)⟩⟩
  · cases e'
end

/-! ### targets -/
abbrev Tg := Dat → Env → Option Env
abbrev Tgs := List Dat → Env → Option Env
def Agr (sl : List Nat) (σ σ' : L2.St) : Prop := σ'.length = σ.length ∧ ∀ i, i ∉ sl → σ'[i]? = σ[i]?
theorem Agr.refl (sl : List Nat) (σ : L2.St) : Agr sl σ σ := ⟨rfl, fun _ _ => rfl⟩
theorem Agr.trans {sl sl' : List Nat} {σ σ1 σ2 : L2.St} (a : Agr sl σ σ1) (b : Agr sl' σ1 σ2) : Agr (sl ++ sl') σ σ2 := ⟨b.1.trans a.1, fun i hi => (b.2 i fun h => hi (List.mem_append_right _ h)).trans (a.2 i fun h => hi (List.mem_append_left _ h))⟩
theorem Rel.setP {L : LC} {σ : L2.St} {H F : Hp} {ρ : Env} {i : Nat} {v : V} {d : Dat} (r : Rel L σ H F ρ) (hk : L.S.ks[i]? = some Kd.p) (h : Rp L.S.K L.S.G F v d) : Rel L (σ.set i (some v)) H F (ρ.set i (some d)) := by
  have ne : ∀ {j : Nat} {k : Kd}, L.S.ks[j]? = some k → k ≠ .p → i ≠ j := fun {j k} e n z => by subst z; rw [hk] at e; cases e; exact n rfl
  have lv : ∀ {j : Nat} {a : Addr}, LiveAt L (σ.set i (some v)) (ρ.set i (some d)) j a → LiveAt L σ ρ j a := fun {j a} ⟨h1, ⟨ds, h2⟩, h3⟩ => by
    have hne : i ≠ j := by rcases h1 with h1 | h1 <;> exact ne h1 (by decide)
    rw [List.getElem?_set_ne hne] at h2 h3
    exact ⟨h1, ⟨ds, h2⟩, h3⟩
  refine ⟨r.sub, r.old, r.fold, r.fnew, by rw [List.length_set, List.length_set]; exact r.len, fun j e hj he => ?_, fun j e hj he => ?_, fun j a e => ?_, r.ioOnly, fun j k a h1 h2 => r.dis j k a (lv h1) (lv h2)⟩
  · by_cases z : i = j
    · subst z
      have hlt : i < ρ.length := by
        have := (List.getElem?_eq_some_iff.mp he).1
        rwa [List.length_set] at this
      rw [List.getElem?_set_self hlt] at he
      cases he
      exact ⟨v, by rw [List.getElem?_set_self (by rw [← r.len]; exact hlt)], h⟩
    · rw [List.getElem?_set_ne z] at he ⊢
      exact r.pl j e hj he
  · have z := ne hj (by decide)
    rw [List.getElem?_set_ne z] at he ⊢
    exact r.mu j e hj he
  · obtain ⟨k, h0, f0, e1, ds, e2, ow⟩ := r.io j a e
    have z := ne k (by decide)
    rw [List.getElem?_set_ne z, List.getElem?_set_ne z]
    exact ⟨k, h0, f0, e1, ds, e2, ow⟩
/-- a target's reading: frozen data into names that hold frozen data -/
def tG (L : LC) (sl : List Nat) (f : Tg) : TG := fun v σ H Q => ∃ F ρ d ρ', Rel L σ H F ρ ∧ Rp L.S.K L.S.G F v d ∧ f d ρ = some ρ' ∧ ∀ σ', Rel L σ' H F ρ' → Agr sl σ σ' → Q σ' H
def tGs (L : LC) (sl : List Nat) (f : Tgs) : TGs := fun vs σ H Q => ∃ F ρ ds ρ', Rel L σ H F ρ ∧ RpA L.S.K L.S.G F vs ds ∧ f ds ρ = some ρ' ∧ ∀ σ', Rel L σ' H F ρ' → Agr sl σ σ' → Q σ' H
def EG (X : Cx) (S : Stc) (tg : Expr) (sl : List Nat) (f : Tg) : Prop := ∀ L, L.S = S → PG X tg (tG L sl f)
def EGs (X : Cx) (S : Stc) (ts : List Expr) (sl : List Nat) (f : Tgs) : Prop := ∀ L, L.S = S → PGs X ts (tGs L sl f)
def aName (i : Nat) : Tg := fun d ρ => some (ρ.set i (some d))
def aNil : Tgs := fun ds ρ => match ds with
  | [] => some ρ
  | _ => none
def aCons (f : Tg) (fs : Tgs) : Tgs := fun ds ρ => match ds with
  | d :: ds => (f d ρ).bind (fs ds)
  | [] => none
def aTup (n : Nat) (fs : Tgs) : Tg := fun d ρ => match d with
  | .tuple ds => if ds.length = n then fs ds ρ else none
  | .list ds => if ds.length = n then fs ds ρ else none
  | _ => none
section
variable {X : Cx} {S : Stc} {i : Nat} {x : Str} {pos : Pos} {e : Expr} {es : List Expr} {sl sl' : List Nat} {f : Tg} {fs : Tgs}
theorem PG.imp {tg : Expr} {t t' : TG} (h : PG X tg t) (i : ∀ v σ H Q, t' v σ H Q → t v σ H Q) : PG X tg t' := ⟨fun pins s σ H v u Q I r q => h.run pins s σ H v u Q I r (i _ _ _ _ q)⟩
theorem PGs.imp {tg : List Expr} {t t' : TGs} (h : PGs X tg t) (i : ∀ v σ H Q, t' v σ H Q → t v σ H Q) : PGs X tg t' := ⟨fun pins s σ H v u Q I r q => h.run pins s σ H v u Q I r (i _ _ _ _ q)⟩
theorem PG.or {tg : Expr} {t t' : TG} (h : PG X tg t) (h' : PG X tg t') : PG X tg (fun v σ H Q => t v σ H Q ∨ t' v σ H Q) := ⟨fun pins s σ H v u Q I r q => by
  rcases q with q | q
  · exact h.run pins s σ H v u Q I r q
  · exact h'.run pins s σ H v u Q I r q⟩
theorem eg_name (hN : X.N.Nodup) (hi : X.N[i]? = some x) (hx : Loc X.env.scope x) (hf : X.fn x = true ∨ X.env.scope.names.lookup x = some .local) (hk : S.ks[i]? = some Kd.p) : EG X S (.Name x pos) [i] (aName i) := fun L hL => by
  subst hL
  refine PG.imp (pg_name hN hi hx hf) fun v σ H Q ⟨F, ρ, d, ρ', r, h, e, q⟩ => ?_
  cases e
  exact q _ (r.setP hk h) ⟨List.length_set .., fun j hj => List.getElem?_set_ne fun z => hj (by rw [z]; exact List.mem_singleton_self _)⟩
theorem egs_nil : EGs X S [] [] aNil := fun L hL => PGs.imp pgs_nil fun vs σ H Q ⟨F, ρ, ds, ρ', r, h, e, q⟩ => by
  cases h with
  | nil => cases e; exact ⟨rfl, q σ r (Agr.refl _ _)⟩
  | cons a b => cases e
theorem egs_cons (h1 : EG X S e sl f) (h2 : EGs X S es sl' fs) (hs : (assignEach (e :: es) X.env).map (·.2) = assign e X.env :: (assignEach es X.env).map (·.2)) : EGs X S (e :: es) (sl ++ sl') (aCons f fs) := fun L hL => by
  refine PGs.imp (pgs_cons (h1 L hL) (h2 L hL) hs) fun vs σ H Q ⟨F, ρ, ds, ρ', r, h, e, q⟩ => ?_
  cases h with
  | nil => cases e
  | cons a b =>
    unfold aCons at e
    obtain ⟨ρ1, e1, e2⟩ := Option.bind_eq_some_iff.mp e
    exact ⟨_, _, rfl, F, ρ, _, ρ1, r, a, e1, fun σ1 r1 g1 => ⟨F, ρ1, _, ρ', r1, b, e2, fun σ2 r2 g2 => q σ2 r2 (g1.trans g2)⟩⟩
theorem eg_tup {k n : Nat} (hK : X.K = S.K) (hc : X.calm = true) (h : EGs X S es sl fs) (hn : (assignEach es X.env).length = n) (hst : (assignEach es X.env).findIdx? (·.1) = none) : EG X S (.Tuple es k pos) sl (aTup n fs) := fun L hL => by
  subst hL
  refine PG.imp (PG.or (pg_tup hc (h L rfl) hn hst) (pg_lst hc (h L rfl) hn hst)) fun v σ H Q ⟨F, ρ, d, ρ', r, p, e, q⟩ => ?_
  unfold aTup at e
  split at e
  · split at e
    · rename_i hl
      cases p with
      | tup h1 h2 => exact .inl ⟨_, _, rfl, hK ▸ sqt_mono r.sub h1, by rw [h2.length]; exact hl, F, ρ, _, ρ', r, h2, e, q⟩
    · cases e
  · split at e
    · rename_i hl
      cases p with
      | lst h1 h2 => exact .inr ⟨_, _, rfl, hK ▸ SqL.of (r.sub _ _ h1), by rw [h2.length]; exact hl, F, ρ, _, ρ', r, h2, e, q⟩
    · cases e
  · cases e
end

/-! ### statements -/
def vRet (L : LC) (own : Bool) : VPt V Dat := if own then vO L else vE L
def PostS (L : LC) (W : WX) (own : Bool) (F : Hp) (D : Ends) : RS → Prop
  | .stuck => False
  | .nx ρ' => ∀ σ' H' F', Rel L σ' H' F' ρ' → Same F F' → D.nx σ' H'
  | .bk ρ' => ∀ σ' H' F', Rel L σ' H' F' ρ' → Same F F' → D.bk σ' H'
  | .ct ρ' => ∀ σ' H' F', Rel L σ' H' F' ρ' → Same F F' → D.ct σ' H'
  | .rt d ρ' => ∀ v σ' H' F', Rel L σ' H' F' ρ' → Same F F' → vRet L own σ' ρ' H' F' v d → D.rt v H'
  | .exc x ρ' => ∀ cls dd σ' H' F', Rel L σ' H' F' ρ' → Same F F' → L.S.ex x cls dd H' → W cls dd σ' H'
def tS (L : LC) (W : WX) (own : Bool) (s : MS) : TS := fun D σ H => ∃ F ρ, Rel L σ H F ρ ∧ PostS L W own F D (s ρ)
def ES (X : Cx) (S : Stc) (W : WX) (own : Bool) (st : Stmt) (s : MS) : Prop := ∀ L, L.S = S → PS X st (tS L W own s)
def ESs (X : Cx) (S : Stc) (W : WX) (own : Bool) (st : List Stmt) (s : MS) : Prop := ∀ L, L.S = S → PSs X st (tS L W own s)
theorem PostS.mono {L : LC} {W : WX} {own : Bool} {F F1 : Hp} {D : Ends} {o : RS} (s : Same F F1) (h : PostS L W own F D o) : PostS L W own F1 D o := by
  cases o with
  | stuck => exact h
  | nx ρ' => exact fun σ' H' F' r t => h σ' H' F' r (s.trans t)
  | bk ρ' => exact fun σ' H' F' r t => h σ' H' F' r (s.trans t)
  | ct ρ' => exact fun σ' H' F' r t => h σ' H' F' r (s.trans t)
  | rt d ρ' => exact fun v σ' H' F' r t q => h v σ' H' F' r (s.trans t) q
  | exc x ρ' => exact fun c d σ' H' F' r t q => h c d σ' H' F' r (s.trans t) q
/-- a value (or an error) ahead of a statement's end -/
def sBind {α : Type} (g : M α) (k : α → MS) : MS := fun ρ => match g ρ with
  | .stuck => .stuck
  | .ok a ρ' => k a ρ'
  | .exc x ρ' => .exc x ρ'
theorem PostS.bind {ω α : Type} {L : LC} {W : WX} {own : Bool} {σ : L2.St} {F : Hp} {D : Ends} {VP : VPt ω α} {g : M α} {k : α → MS} {ρ : Env} (h : PostS L W own F D (sBind g k ρ)) :
    Post L W σ F VP (g ρ) (fun v H1 => ∃ F1 ρ1 a, Rel L σ H1 F1 ρ1 ∧ Same F F1 ∧ VP σ ρ1 H1 F1 v a ∧ PostS L W own F1 D (k a ρ1)) := by
  unfold sBind at h
  cases e : g ρ with
  | stuck => rw [e] at h; exact h
  | ok a ρ' => rw [e] at h; exact fun v H' F' r t q => ⟨F', ρ', a, r, t, q, h.mono t⟩
  | exc x ρ' => rw [e] at h; exact fun c d H' F' r t q => h c d σ H' F' r t q
def sNil : MS := fun ρ => .nx ρ
def sSeq (a b : MS) : MS := fun ρ => match a ρ with
  | .nx ρ' => b ρ'
  | o => o
def sPass : MS := fun ρ => .nx ρ
def sBreak : MS := fun ρ => .bk ρ
def sCont : MS := fun ρ => .ct ρ
def sExpr (g : M Dat) : MS := sBind g fun _ ρ => .nx ρ
def sRet (g : M Dat) : MS := sBind g fun d ρ => .rt d ρ
def sRetN : MS := fun ρ => .rt .none ρ
def sIf (t : M Bool) (a b : MS) : MS := sBind t fun c => if c then a else b
/-- a target's store -/
def sAsg (g : M Dat) (f : Tg) : MS := sBind g fun d ρ => match f d ρ with
  | some ρ' => .nx ρ'
  | none => .stuck
section
variable {X : Cx} {S : Stc} {W : WX} {own : Bool} {pos : Pos} {st : Stmt} {rest body orelse : List Stmt} {a b : MS} {e tg c : Expr} {g : M Dat} {t : M Bool} {sl : List Nat} {f : Tg}
theorem ess_nil : ESs X S W own [] sNil := fun L hL => PSs.imp pss_nil fun D σ H ⟨F, ρ, r, q⟩ => q σ H F r (Same.refl _)
theorem ess_cons (h1 : ES X S W own st a) (h2 : ESs X S W own rest b) : ESs X S W own (st :: rest) (sSeq a b) := fun L hL => by
  refine PSs.imp (pss_cons (h1 L hL) (h2 L hL)) fun D σ H ⟨F, ρ, r, q⟩ => ⟨F, ρ, r, ?_⟩
  unfold sSeq at q
  cases e : a ρ with
  | nx ρ' => rw [e] at q; exact fun σ' H' F' r' s => ⟨F', ρ', r', q.mono s⟩
  | stuck => rw [e] at q; exact q
  | bk ρ' => rw [e] at q; exact q
  | ct ρ' => rw [e] at q; exact q
  | rt d ρ' => rw [e] at q; exact q
  | exc x ρ' => rw [e] at q; exact q
theorem es_pass : ES X S W own (.Pass pos) sPass := fun L hL => PS.imp ps_pass fun D σ H ⟨F, ρ, r, q⟩ => q σ H F r (Same.refl _)
theorem es_break : ES X S W own (.Break pos) sBreak := fun L hL => PS.imp ps_break fun D σ H ⟨F, ρ, r, q⟩ => q σ H F r (Same.refl _)
theorem es_cont : ES X S W own (.Continue pos) sCont := fun L hL => PS.imp ps_continue fun D σ H ⟨F, ρ, r, q⟩ => q σ H F r (Same.refl _)
theorem es_expr (h : EE X S W e g) (hs : swapsWith e none pos.line X.env = pure false) : ES X S W own (.Expr e pos) (sExpr g) := fun L hL => by
  subst hL
  refine PS.imp (ps_expr (h L rfl) hs) fun D σ H ⟨F, ρ, r, q⟩ => ⟨F, ρ, r, (PostS.bind (VP := vE L) q).imp fun v H1 ⟨F1, ρ1, d, r1, s1, p1, q⟩ => q σ H1 F1 r1 (Same.refl _)⟩
theorem es_ret (h : EE X S W e g) : ES X S W false (.Return (some e) pos) (sRet g) := fun L hL => by
  subst hL
  refine PS.imp (ps_ret (h L rfl)) fun D σ H ⟨F, ρ, r, q⟩ => ⟨F, ρ, r, (PostS.bind (VP := vE L) q).imp fun v H1 ⟨F1, ρ1, d, r1, s1, p1, q⟩ => q v σ H1 F1 r1 (Same.refl _) p1⟩
theorem es_retO (h : EO X S W e g) : ES X S W true (.Return (some e) pos) (sRet g) := fun L hL => by
  subst hL
  refine PS.imp (ps_ret (h L rfl)) fun D σ H ⟨F, ρ, r, q⟩ => ⟨F, ρ, r, (PostS.bind (VP := vO L) q).imp fun v H1 ⟨F1, ρ1, d, r1, s1, p1, q⟩ => q v σ H1 F1 r1 (Same.refl _) p1⟩
theorem es_retN : ES X S W own (.Return none pos) sRetN := fun L hL => PS.imp ps_retN fun D σ H ⟨F, ρ, r, q⟩ => q .non σ H F r (Same.refl _) (by
  cases own
  · show vE L σ ρ H F .non .none
    exact Rp.non
  · show vO L σ ρ H F .non .none
    exact Or.inr (And.intro (fun _ z => nomatch z) Rp.non))
theorem es_if (hc : ET X S W c t) (h1 : ESs X S W own body a) (h2 : ESs X S W own orelse b) : ES X S W own (.If c body orelse pos) (sIf t a b) := fun L hL => by
  subst hL
  refine PS.imp (ps_if (hc L rfl) (h1 L rfl) (h2 L rfl)) fun D σ H ⟨F, ρ, r, q⟩ => ⟨F, ρ, r, (PostS.bind (VP := vB) q).imp fun v H1 ⟨F1, ρ1, d, r1, s1, p1, q⟩ => ?_⟩
  subst p1
  cases v with
  | true => rw [if_pos rfl] at q ⊢; exact ⟨F1, ρ1, r1, q⟩
  | false => rw [if_neg Bool.false_ne_true] at q ⊢; exact ⟨F1, ρ1, r1, q⟩
theorem tAsg_of {L : LC} : ∀ D σ H, tS L W own (sAsg g f) D σ H → tAsg (tE L W g) (tG L sl f) D σ H := fun D σ H ⟨F, ρ, r, q⟩ => ⟨F, ρ, r, (PostS.bind (VP := vE L) q).imp fun v H1 ⟨F1, ρ1, d, r1, s1, p1, q⟩ => by
  cases e : f d ρ1 with
  | none => rw [e] at q; exact absurd q (by intro z; exact z)
  | some ρ2 => rw [e] at q; exact ⟨F1, ρ1, d, ρ2, r1, p1, e, fun σ' r2 _ => q σ' H1 F1 r2 (Same.refl _)⟩⟩
theorem es_asg (he : EE X S W e g) (hg : EG X S tg sl f) (hs : swapsWithSole [tg] e pos.line X.env = pure false) (hw : swappedStores [tg] e X.env = pure none) (h1 : (assignEach [tg] X.env).map (·.2) = [assign tg X.env]) : ES X S W own (.Assign [tg] e pos) (sAsg g f) := fun L hL => by
  subst hL
  exact PS.imp (ps_asg (he L rfl) (hg L rfl) hs hw h1) tAsg_of
end

/-! ### loops -/
def forL (f : Tg) (b : MS) : List Dat → MS
  | [], ρ => .nx ρ
  | d :: ds, ρ => match f d ρ with
    | none => .stuck
    | some ρ1 => match b ρ1 with
      | .nx ρ2 => forL f b ds ρ2
      | .ct ρ2 => forL f b ds ρ2
      | .bk ρ2 => .nx ρ2
      | o => o
def sFor (gi : M (List Dat)) (f : Tg) (b : MS) : MS := sBind gi fun ds => forL f b ds
def whileL (c : M Bool) (b : MS) : Nat → MS
  | 0, _ => .stuck
  | n + 1, ρ => match c ρ with
    | .stuck => .stuck
    | .exc x ρ1 => .exc x ρ1
    | .ok false ρ1 => .nx ρ1
    | .ok true ρ1 => match b ρ1 with
      | .nx ρ2 => whileL c b n ρ2
      | .ct ρ2 => whileL c b n ρ2
      | .bk ρ2 => .nx ρ2
      | o => o
section
variable {X : Cx} {S : Stc} {W : WX} {own : Bool} {pos : Pos} {body : List Stmt} {b : MS} {tg it c : Expr} {gi : M (List Dat)} {t : M Bool} {sl : List Nat} {f : Tg}
theorem es_for (hp : PassesOwn (model X.prog X.w) X.A X.env X.xe) (hc : X.calm = true) (hi : EI X S W tg it gi) (hg : EG X S tg sl f) (hb : ESs X S W own body b) (hs : ∀ x, foldedSetIterable it X.env x = pure x) : ES X S W own (.For tg it body [] pos) (sFor gi f b) := fun L hL => by
  subst hL
  refine PS.imp (ps_for hp hc (hi L rfl) (hg L rfl) (hb L rfl) hs) fun D σ H ⟨F, ρ, r, q⟩ => ⟨F, ρ, r, (PostS.bind (VP := vI L.S) q).imp fun J H1 ⟨F1, ρ1, ds, r1, s1, ok, q⟩ => ?_⟩
  refine ⟨fun i m σ H => m = ds.length - i ∧ ∃ F ρ, Rel L σ H F ρ ∧ Same F1 F ∧ PostS L W own F D (forL f b (ds.drop i) ρ), ⟨ds.length, rfl, F1, ρ1, r1, Same.refl _, by rw [List.drop_zero]; exact q⟩, ?_⟩
  rintro i m σ H ⟨rfl, F2, ρ2, r2, s2, q2⟩
  obtain ⟨k1, k2⟩ := ok L rfl i σ H F2 ρ2 r2 s2
  cases hd : ds[i]? with
  | none =>
    refine .inl ⟨k2 hd, ?_⟩
    have e : ds.drop i = [] := List.drop_eq_nil_of_le (List.getElem?_eq_none_iff.mp hd)
    rw [e] at q2
    exact q2 σ H F2 r2 (Same.refl _)
  | some d =>
    obtain ⟨hlt, hdi⟩ := List.getElem?_eq_some_iff.mp hd
    have e : ds.drop i = d :: ds.drop (i + 1) := by rw [← hdi]; exact List.drop_eq_getElem_cons hlt
    rw [e] at q2
    obtain ⟨go, y⟩ := k1 d hd
    refine .inr ⟨go, fun σ' H' => ∃ F ρ, Rel L σ' H' F ρ ∧ Same F1 F ∧ PostS L W own F D (forL f b (ds.drop (i + 1)) ρ), fun σ' H' ⟨F3, ρ3, r3, s3, q3⟩ => ⟨ds.length - (i + 1), by omega, rfl, F3, ρ3, r3, s3, q3⟩, fun x H' hy => ?_⟩
    obtain ⟨F3, r3, s3, p3⟩ := y x H' hy
    unfold forL at q2
    cases e3 : f d ρ2 with
    | none => rw [e3] at q2; exact absurd q2 (by intro z; exact z)
    | some ρ3 =>
      rw [e3] at q2
      refine ⟨F3, ρ2, d, ρ3, r3, p3, e3, fun σ' r4 _ => ⟨F3, ρ3, r4, ?_⟩⟩
      have q2 := q2.mono s3
      dsimp only at q2
      cases e4 : b ρ3 with
      | stuck => rw [e4] at q2; exact q2
      | nx ρ4 => rw [e4] at q2; exact fun σ5 H5 F5 r5 s5 => ⟨F5, ρ4, r5, (s2.trans s3).trans s5, q2.mono s5⟩
      | ct ρ4 => rw [e4] at q2; exact fun σ5 H5 F5 r5 s5 => ⟨F5, ρ4, r5, (s2.trans s3).trans s5, q2.mono s5⟩
      | bk ρ4 => rw [e4] at q2; exact q2
      | rt x4 ρ4 => rw [e4] at q2; exact q2
      | exc x4 ρ4 => rw [e4] at q2; exact q2
theorem es_while {n : Nat} (hp : PassesOwn (model X.prog X.w) X.A X.env X.xe) (hc : ET X S W c t) (hb : ESs X S W own body b) : ES X S W own (.While c body [] pos) (whileL t b n) := fun L hL => by
  subst hL
  refine PS.imp (ps_while hp (hc L rfl) (hb L rfl)) fun D σ H ⟨F, ρ, r, q⟩ => ?_
  refine ⟨fun m σ H => ∃ F ρ, Rel L σ H F ρ ∧ PostS L W own F D (whileL t b m ρ), ⟨n, F, ρ, r, q⟩, ?_⟩
  rintro m σ H ⟨F1, ρ1, r1, q1⟩
  cases m with
  | zero => exact absurd q1 (by intro z; exact z)
  | succ m =>
    unfold whileL at q1
    refine ⟨F1, ρ1, r1, ?_⟩
    cases e : t ρ1 with
    | stuck => rw [e] at q1; exact q1
    | exc x ρ2 => rw [e] at q1; exact fun c d H' F' r s z => q1 c d σ H' F' r s z
    | ok k ρ2 =>
      rw [e] at q1
      intro v H2 F2 r2 s2 p2
      have p2 : v = k := p2
      subst p2
      cases v with
      | false => rw [if_neg Bool.false_ne_true]; exact q1 σ H2 F2 r2 s2
      | true =>
        rw [if_pos rfl]
        refine ⟨fun σ' H' => ∃ F ρ, Rel L σ' H' F ρ ∧ PostS L W own F D (whileL t b m ρ), fun σ' H' h => ⟨m, Nat.lt_succ_self _, h⟩, F2, ρ2, r2, ?_⟩
        have q1 := q1.mono s2
        dsimp only at q1
        cases e4 : b ρ2 with
        | stuck => rw [e4] at q1; exact q1
        | nx ρ4 => rw [e4] at q1; exact fun σ5 H5 F5 r5 s5 => ⟨F5, ρ4, r5, q1.mono s5⟩
        | ct ρ4 => rw [e4] at q1; exact fun σ5 H5 F5 r5 s5 => ⟨F5, ρ4, r5, q1.mono s5⟩
        | bk ρ4 => rw [e4] at q1; exact q1
        | rt x4 ρ4 => rw [e4] at q1; exact q1
        | exc x4 ρ4 => rw [e4] at q1; exact q1
end
end L2.PV
set_option Elab.async false
set_option linter.all false
set_option maxRecDepth 100000
set_option maxHeartbeats 2000000
namespace L2.PV
open PySem PySem.Spec PyProof.Rows
/-! ### slots of a block's own names -/
def wipeE (ρ : Env) : List Nat → Env
  | [] => ρ
  | v :: vs => (wipeE ρ vs).set v none
def backE (ρ0 ρ : Env) : List Nat → Env
  | [] => ρ
  | v :: vs => (backE ρ0 ρ vs).set v ((ρ0[v]?).getD none)
def backS (σ0 σ : L2.St) : List Nat → L2.St
  | [] => σ
  | v :: vs => (backS σ0 σ vs).set v ((σ0[v]?).getD none)
section
variable {L : LC} {σ σ1 : L2.St} {H H1 F F1 : Hp} {ρ ρ1 : Env}
theorem kd_ne {i j : Nat} {k : Kd} (hk : L.S.ks[i]? = some Kd.p) (e : L.S.ks[j]? = some k) (n : k ≠ .p) : i ≠ j := fun z => by subst z; rw [hk] at e; cases e; exact n rfl
/-- a slot of frozen data set to anything that fits -/
theorem Rel.setO (r : Rel L σ H F ρ) {i : Nat} {x : Option V} {y : Option Dat} (hk : L.S.ks[i]? = some Kd.p) (h : ∀ d, y = some d → ∃ v, x = some v ∧ Rp L.S.K L.S.G F v d) : Rel L (σ.set i x) H F (ρ.set i y) := by
  cases y with
  | some d =>
    obtain ⟨v, rfl, q⟩ := h d rfl
    exact r.setP hk q
  | none =>
    have lv : ∀ {j : Nat} {a : Addr}, LiveAt L (σ.set i x) (ρ.set i none) j a → LiveAt L σ ρ j a := fun {j a} ⟨h1, ⟨ds, h2⟩, h3⟩ => by
      have hne : i ≠ j := by rcases h1 with h1 | h1 <;> exact kd_ne hk h1 (by decide)
      rw [List.getElem?_set_ne hne] at h2 h3
      exact ⟨h1, ⟨ds, h2⟩, h3⟩
    refine ⟨r.sub, r.old, r.fold, r.fnew, by rw [List.length_set, List.length_set]; exact r.len, fun j e hj he => ?_, fun j e hj he => ?_, fun j a e => ?_, r.ioOnly, fun j k a h1 h2 => r.dis j k a (lv h1) (lv h2)⟩
    · by_cases z : i = j
      · subst z
        have hlt : i < ρ.length := by
          have := (List.getElem?_eq_some_iff.mp he).1
          rwa [List.length_set] at this
        rw [List.getElem?_set_self hlt] at he
        cases he
      · rw [List.getElem?_set_ne z] at he ⊢
        exact r.pl j e hj he
    · have z := kd_ne hk hj (by decide)
      rw [List.getElem?_set_ne z] at he ⊢
      exact r.mu j e hj he
    · obtain ⟨k, h0, f0, e1, ds, e2, ow⟩ := r.io j a e
      have z := kd_ne hk k (by decide)
      rw [List.getElem?_set_ne z, List.getElem?_set_ne z]
      exact ⟨k, h0, f0, e1, ds, e2, ow⟩
theorem Rel.wipe (r : Rel L σ H F ρ) : ∀ {vs : List Nat}, (∀ v ∈ vs, L.S.ks[v]? = some Kd.p) → Rel L (L2.wipe σ vs) H F (wipeE ρ vs)
  | [], _ => r
  | v :: vs, h => by
    unfold L2.wipe wipeE
    exact (r.wipe fun w hw => h w (List.mem_cons_of_mem _ hw)).setO (h v (List.mem_cons_self ..)) fun d e => nomatch e
theorem Rel.back (r : Rel L σ H F ρ) (r1 : Rel L σ1 H1 F1 ρ1) (s : Same F1 F) : ∀ {vs : List Nat}, (∀ v ∈ vs, L.S.ks[v]? = some Kd.p) → Rel L (backS σ1 σ vs) H F (backE ρ1 ρ vs)
  | [], _ => r
  | v :: vs, h => by
    unfold backS backE
    refine (r.back r1 s fun w hw => h w (List.mem_cons_of_mem _ hw)).setO (h v (List.mem_cons_self ..)) fun d e => ?_
    cases c : ρ1[v]? with
    | none => rw [c] at e; cases e
    | some y =>
      rw [c] at e
      have e : y = some d := e
      subst e
      obtain ⟨w, e1, e2⟩ := r1.pl v d (h v (List.mem_cons_self ..)) c
      exact ⟨w, by rw [e1]; rfl, e2.mono s⟩
theorem backS_len (σ0 σ : L2.St) : ∀ vs : List Nat, (backS σ0 σ vs).length = σ.length
  | [] => rfl
  | v :: vs => by unfold backS; rw [List.length_set, backS_len σ0 σ vs]
theorem backS_get (σ0 σ : L2.St) (hl : σ.length = σ0.length) : ∀ (vs : List Nat) (i : Nat), (backS σ0 σ vs)[i]? = if i ∈ vs then σ0[i]? else σ[i]?
  | [], i => by simp [backS]
  | v :: vs, i => by
    unfold backS
    by_cases z : v = i
    · subst z
      rw [if_pos (List.mem_cons_self ..)]
      by_cases hlt : v < σ0.length
      · rw [List.getElem?_set_self (by rw [backS_len, hl]; exact hlt), List.getElem?_eq_getElem hlt] <;> rfl
      · rw [List.getElem?_eq_none (by rw [List.length_set, backS_len]; omega), List.getElem?_eq_none (by omega)]
    · rw [List.getElem?_set_ne z, backS_get σ0 σ hl vs i]
      have e : (i ∈ v :: vs) = (i ∈ vs) := by
        simp only [List.mem_cons, eq_iff_iff]
        exact ⟨fun h => h.elim (fun h => absurd h.symm z) id, .inr⟩
      simp only [e]
theorem backS_wipe (σ : L2.St) (vs : List Nat) : backS σ (L2.wipe σ vs) vs = σ := List.ext_getElem? fun i => by
  rw [backS_get σ _ (wipe_length σ vs)]
  by_cases h : i ∈ vs
  · rw [if_pos h]
  · rw [if_neg h, wipe_out h]
theorem wipe_in {σ : L2.St} {i : Nat} : ∀ {vs : List Nat}, i ∈ vs → i < σ.length → (L2.wipe σ vs)[i]? = some none
  | v :: vs, h, hl => by
    unfold L2.wipe
    by_cases z : v = i
    · subst z; rw [List.getElem?_set_self (by rw [wipe_length]; exact hl)]
    · rw [List.getElem?_set_ne z]
      rcases List.mem_cons.mp h with h | h
      · exact absurd h.symm z
      · exact wipe_in h hl
theorem wipe_agr {σ σ' : L2.St} {vs : List Nat} (a : Agr vs (L2.wipe σ vs) σ') : L2.wipe σ' vs = L2.wipe σ vs := List.ext_getElem? fun i => by
  have hl : σ'.length = σ.length := by rw [a.1, wipe_length]
  by_cases h : i ∈ vs
  · by_cases hlt : i < σ.length
    · rw [wipe_in h (by rw [hl]; exact hlt), wipe_in h hlt]
    · rw [List.getElem?_eq_none (by rw [wipe_length]; omega), List.getElem?_eq_none (by rw [wipe_length]; omega)]
  · rw [wipe_out h]; exact a.2 i h
theorem Agr.sub {sl sl' : List Nat} {σ σ' : L2.St} (a : Agr sl σ σ') (h : ∀ i ∈ sl, i ∈ sl') : Agr sl' σ σ' := ⟨a.1, fun i hi => a.2 i fun z => hi (h i z)⟩

/-! ### a new list that is held through other work -/
/-- D, of nobody -/
structure Held (L : LC) (σ : L2.St) (H F : Hp) (ρ : Env) (D : Addr) : Prop where
  h0 : L.H0 D = none
  nF : F D = none
  nl : ∀ i, ¬ LiveAt L σ ρ i D
abbrev LC.hold (L : LC) (D : Addr) (xs : List V) : LC := { L with H0 := upd L.H0 D (.lst xs) }
theorem notIo_hold {L : LC} {D a : Addr} {xs : List V} : notIo (L.hold D xs) a ↔ notIo L a := Iff.rfl
theorem live_hold {L : LC} {D a : Addr} {xs : List V} {i : Nat} : LiveAt (L.hold D xs) σ ρ i a ↔ LiveAt L σ ρ i a := Iff.rfl
theorem Rel.hold (r : Rel L σ H F ρ) {D : Addr} {xs : List V} (h : Held L σ H F ρ D) (hD : H D = some (.lst xs)) : Rel (L.hold D xs) σ H F ρ := by
  refine ⟨r.sub, fun a o e n => ?_, r.fold, fun a h1 h2 => ?_, r.len, r.pl, fun i d hk hd => ?_, fun i a e => ?_, r.ioOnly, r.dis⟩
  · have e : upd L.H0 D (.lst xs) a = some o := e
    by_cases z : a = D
    · subst z; rw [upd_same] at e; rw [hD]; exact e
    · rw [upd_ne z] at e; exact r.old a o e n
  · by_cases z : a = D
    · subst z; exact absurd h.nF h1
    · have h2 : upd L.H0 D (.lst xs) a ≠ none := h2
      rw [upd_ne z] at h2; exact r.fnew a h1 h2
  · obtain ⟨v, e, q⟩ := r.mu i d hk hd
    refine ⟨v, e, ?_⟩
    rcases q with ⟨ds, a, e1, e2, ow, z⟩ | q
    · subst e1; subst e2
      have hne : a ≠ D := fun z' => h.nl i ⟨.inl hk, ⟨ds, hd⟩, by rw [← z']; exact e⟩
      exact .inl ⟨ds, a, rfl, rfl, ow, by show upd L.H0 D (.lst xs) a = none; rw [upd_ne hne]; exact z⟩
    · exact .inr q
  · obtain ⟨k, h0, f0, e1, ds, e2, ow⟩ := r.io i a e
    have hne : a ≠ D := fun z' => h.nl i ⟨.inr k, ⟨ds, e2⟩, by rw [← z']; exact e1⟩
    exact ⟨k, by show upd L.H0 D (.lst xs) a ≠ none; rw [upd_ne hne]; exact h0, f0, e1, ds, e2, ow⟩
theorem Rel.unhold {D : Addr} {xs : List V} (h0 : L.H0 D = none) (hio : ∀ i a, L.io = some (i, a) → L.H0 a ≠ none) (r : Rel (L.hold D xs) σ H F ρ) : Rel L σ H F ρ := by
  have up : ∀ {a : Addr}, L.H0 a ≠ none → a ≠ D := fun {a} h z => by subst z; exact h h0
  refine ⟨r.sub, fun a o e n => ?_, r.fold, fun a h1 h2 => ?_, r.len, r.pl, fun i d hk hd => ?_, fun i a e => ?_, r.ioOnly, r.dis⟩
  · refine r.old a o ?_ n
    show upd L.H0 D (.lst xs) a = some o
    rw [upd_ne (up (by rw [e]; exact fun z => nomatch z))]; exact e
  · refine r.fnew a h1 ?_
    show upd L.H0 D (.lst xs) a ≠ none
    rw [upd_ne (up h2)]; exact h2
  · obtain ⟨v, e, q⟩ := r.mu i d hk hd
    refine ⟨v, e, ?_⟩
    rcases q with ⟨ds, a, e1, e2, ow, z⟩ | q
    · refine .inl ⟨ds, a, e1, e2, ow, ?_⟩
      have z : upd L.H0 D (.lst xs) a = none := z
      by_cases c : a = D
      · subst c; rw [upd_same] at z; cases z
      · rw [upd_ne c] at z; exact z
    · exact .inr q
  · obtain ⟨k, h1, f0, e1, ds, e2, ow⟩ := r.io i a e
    exact ⟨k, hio i a e, f0, e1, ds, e2, ow⟩
theorem Rel.hio (r : Rel L σ H F ρ) : ∀ i a, L.io = some (i, a) → L.H0 a ≠ none := fun i a e => (r.io i a e).2.1
/-- behind other work the held list stands as it stood -/
theorem Held.after {σ' : L2.St} {H' F' : Hp} {ρ' : Env} {D : Addr} {xs : List V} (r : Rel L σ H F ρ) (h : Held L σ H F ρ D) (s : Same F F') (r' : Rel (L.hold D xs) σ' H' F' ρ') : Held L σ' H' F' ρ' D ∧ H' D = some (.lst xs) := by
  have e0 : (L.hold D xs).H0 D = some (.lst xs) := upd_same
  have f0 : L.F0 D = none := by
    cases c : L.F0 D with
    | none => rfl
    | some o => have := r.fold D o c; rw [h.nF] at this; cases this
  have nio : notIo (L.hold D xs) D := fun i b e z => by
    subst z
    exact (r.io i D e).2.1 h.h0
  refine ⟨⟨h.h0, ?_, fun i lv => ?_⟩, r'.old D _ e0 nio⟩
  · cases c : F' D with
    | none => rfl
    | some o => exact absurd f0 (r'.fnew D (by rw [c]; exact fun z => nomatch z) (by rw [e0]; exact fun z => nomatch z))
  · obtain ⟨hk, ⟨ds, hd⟩, hs⟩ := lv
    rcases hk with hk | hk
    · obtain ⟨v, e, q⟩ := r'.mu i _ hk hd
      rw [hs] at e; cases e
      rcases q with ⟨ds', a, e1, e2, ow, z⟩ | ⟨n, _⟩
      · cases e2
        have z : upd L.H0 D (.lst xs) D = none := z
        rw [upd_same] at z; cases z
      · exact n ds rfl
    · obtain ⟨b, e⟩ := r'.ioOnly i hk
      obtain ⟨_, _, _, e2, _⟩ := r'.io i b e
      rw [hs] at e2; cases e2
      exact nio i D e rfl
/-- a list that nobody has is changed -/
theorem Rel.updFree (r : Rel L σ H F ρ) {D : Addr} {o : HO} (h : Held L σ H F ρ D) : Rel L σ (upd H D o) F ρ := by
  have ow : ∀ {i : Nat} {a : Addr} {ds : List Dat}, LiveAt L σ ρ i a → OwL L H F a ds → OwL L (upd H D o) F a ds := fun {i a ds} lv ⟨xs, e, n, q⟩ => by
    have : a ≠ D := fun z => h.nl i (z ▸ lv)
    exact ⟨xs, by rw [upd_ne this]; exact e, n, q⟩
  refine ⟨fun a x e => ?_, fun a x e n => ?_, r.fold, r.fnew, r.len, r.pl, fun i d hk hd => ?_, fun i a e => ?_, r.ioOnly, r.dis⟩
  · have : a ≠ D := fun z => by subst z; rw [h.nF] at e; cases e
    rw [upd_ne this]; exact r.sub _ _ e
  · have : a ≠ D := fun z => by subst z; rw [h.h0] at e; cases e
    rw [upd_ne this]; exact r.old a x e n
  · obtain ⟨v, e, q⟩ := r.mu i d hk hd
    refine ⟨v, e, ?_⟩
    rcases q with ⟨ds, a, e1, e2, ow', z⟩ | q
    · subst e1; subst e2
      exact .inl ⟨ds, a, rfl, rfl, ow (i := i) ⟨.inl hk, ⟨ds, hd⟩, e⟩ ow', z⟩
    · exact .inr q
  · obtain ⟨k, h0, f0, e1, ds, e2, ow'⟩ := r.io i a e
    exact ⟨k, h0, f0, e1, ds, e2, ow (i := i) ⟨.inr k, ⟨ds, e2⟩, e1⟩ ow'⟩
theorem Held.of_new (r : Rel L σ H F ρ) {D : Addr} {o : HO} (h : H D = none) : Held L σ (upd H D o) F ρ D := ⟨r.free0 h, r.free h, fun i lv => r.live_ne lv h rfl⟩
end
end L2.PV
set_option Elab.async false
set_option linter.all false
set_option maxRecDepth 100000
set_option maxHeartbeats 2000000
namespace L2.PV
open PySem PySem.Spec PyProof.Rows
/-! ### list comprehensions -/
def W0 : WX := fun _ _ _ _ => False
def compR (f : Tg) (t : M Bool) (e : M Dat) (vs : List Nat) : List Dat → M (List Dat)
  | [], ρ => .ok [] ρ
  | d :: ds, ρ => match f d ρ with
    | none => .stuck
    | some ρ1 => match t ρ1 with
      | .ok true ρ2 => match e ρ2 with
        | .ok x ρ3 => match compR f t e vs ds (wipeE ρ3 vs) with
          | .ok xs ρ4 => .ok (x :: xs) ρ4
          | _ => .stuck
        | _ => .stuck
      | .ok false ρ2 => compR f t e vs ds (wipeE ρ2 vs)
      | _ => .stuck
def cLc (gi : M (List Dat)) (f : Tg) (t : M Bool) (e : M Dat) (vs : List Nat) : M Dat := M.bind gi fun ds ρ1 => match compR f t e vs ds (wipeE ρ1 vs) with
  | .ok xs ρ2 => if xs.length ≤ lineN then .ok (.list xs) (backE ρ1 ρ2 vs) else .stuck
  | _ => .stuck
theorem PE.ex {X : Cx} {e : Expr} {S : Stc} {t : LC → TE} (h : ∀ L, L.S = S → PE X e (t L)) : PE X e (fun σ H Q => ∃ L, L.S = S ∧ t L σ H Q) := ⟨fun pins s σ H Q I ⟨L, hL, q⟩ => (h L hL).run pins s σ H Q I q⟩
theorem PTs.ex {X : Cx} {e : List Expr} {S : Stc} {t : LC → TT} (h : ∀ L, L.S = S → PTs X e (t L)) : PTs X e (fun σ H Q => ∃ L, L.S = S ∧ t L σ H Q) := ⟨fun pins s σ H Q I ⟨L, hL, q⟩ => (h L hL).run pins s σ H Q I q⟩
theorem PG.ex {X : Cx} {e : Expr} {S : Stc} {t : LC → TG} (h : ∀ L, L.S = S → PG X e (t L)) : PG X e (fun v σ H Q => ∃ L, L.S = S ∧ t L v σ H Q) := ⟨fun pins s σ H v u Q I r ⟨L, hL, q⟩ => (h L hL).run pins s σ H v u Q I r q⟩
def ETs (X : Cx) (S : Stc) (W : WX) (e : List Expr) (g : M Bool) : Prop := ∀ L, L.S = S → PTs X e (tT L W g)
section
variable {X : Cx} {S : Stc} {W : WX} {c : Expr} {t : M Bool}
theorem PTs.imp {e : List Expr} {t t' : TT} (h : PTs X e t) (i : ∀ σ H Q, t' σ H Q → t σ H Q) : PTs X e t' := ⟨fun pins s σ H Q I q => h.run pins s σ H Q I (i _ _ _ q)⟩
theorem ets_nil : ETs X S W [] (M.pure true) := fun L hL => PTs.imp pts_nil fun σ H Q ⟨F, ρ, r, q⟩ => q true H F r (Same.refl _) rfl
theorem ets_one (h : ET X S W c t) : ETs X S W [c] t := fun L hL => pts_one (h L hL)
end
theorem backE_out {ρ0 ρ : Env} {i : Nat} : ∀ {vs : List Nat}, i ∉ vs → (backE ρ0 ρ vs)[i]? = ρ[i]?
  | [], _ => rfl
  | v :: vs, h => by
    unfold backE
    rw [List.getElem?_set_ne fun z => h (by rw [z]; exact List.mem_cons_self ..)]
    exact backE_out fun z => h (List.mem_cons_of_mem _ z)
/-- what a comprehension's end wants -/
def PostC (L : LC) (σ : L2.St) (F1 : Hp) (ρ1 : Env) (vs : List Nat) (acc : List Dat) (Q : VK) : R (List Dat) → Prop
  | .ok xs ρ2 => (acc ++ xs).length ≤ lineN ∧ Post L W0 σ F1 (vO L) (.ok (.list (acc ++ xs)) (backE ρ1 ρ2 vs)) Q
  | _ => False
section
variable {X : Cx} {S : Stc} {W : WX} {tg it elt : Expr} {ifs : List Expr} {scope : Scope} {own : List (Str × Nat)} {pos : Pos} {gi : M (List Dat)} {f : Tg} {t : M Bool} {e : M Dat} {sl : List Nat}
/-- the turns of a comprehension, from a state with D the new list -/
theorem lc_turns {L : LC} {J : It} {ds : List Dat} {F1 : Hp} {ρ1 : Env} {σ : L2.St} {vs : List Nat} {D : Addr} {Q : VK} {H0 : Hp} {r1 : Rel L σ H0 F1 ρ1} (hvs : ∀ v ∈ vs, L.S.ks[v]? = some Kd.p) (hsl : ∀ i ∈ sl, i ∈ vs) (ok : IterOk L.S J ds F1)
    (g : TG) (tt : TT) (te : TE) (hg : ∀ L', L'.S = L.S → ∀ v σ H Q, tG L' sl f v σ H Q → g v σ H Q) (htt : ∀ L', L'.S = L.S → ∀ σ H Q, tT L' W0 t σ H Q → tt σ H Q) (hte : ∀ L', L'.S = L.S → ∀ σ H Q, tE L' W0 e σ H Q → te σ H Q)
    {i m : Nat} {H : Hp} (hm : m = ds.length - i) {F : Hp} {ρ : Env} {accV : List V} {acc : List Dat} (r : Rel L (L2.wipe σ vs) H F ρ) (s : Same F1 F) (hh : Held L (L2.wipe σ vs) H F ρ D) (hD : H D = some (.lst accV)) (ra : RpA L.S.K L.S.G F accV acc)
    (pc : PostC L σ F1 ρ1 vs acc Q (compR f t e vs (ds.drop i) ρ)) :
    (J.stop i H ∧ Q (.ref D) H) ∨ (J.go i H ∧ ∃ Nx : Hp → Prop, (∀ H', Nx H' → ∃ m', m' < m ∧ (m' = ds.length - (i + 1) ∧ ∃ F ρ accV acc, Rel L (L2.wipe σ vs) H' F ρ ∧ Same F1 F ∧ Held L (L2.wipe σ vs) H' F ρ D ∧ H' D = some (.lst accV) ∧ RpA L.S.K L.S.G F accV acc ∧ PostC L σ F1 ρ1 vs acc Q (compR f t e vs (ds.drop (i + 1)) ρ))) ∧
      ∀ x H', J.yld i H x H' → g x (L2.wipe σ vs) H' fun σ2 H2 => L2.wipe σ2 vs = L2.wipe σ vs ∧ tt σ2 H2 fun b H3 => if b = true then te σ2 H3 fun y H4 => ∃ acc, H4 D = some (.lst acc) ∧ acc.length < sizeLine ∧ Nx (upd H4 D (.lst (acc ++ [y]))) else Nx H3) := by
  have rh : Rel (L.hold D accV) (L2.wipe σ vs) H F ρ := r.hold hh hD
  obtain ⟨k1, k2⟩ := ok (L.hold D accV) rfl i _ H F ρ rh s
  cases hd : ds[i]? with
  | none =>
    refine .inl ⟨k2 hd, ?_⟩
    have e0 : ds.drop i = [] := List.drop_eq_nil_of_le (List.getElem?_eq_none_iff.mp hd)
    rw [e0] at pc
    unfold compR PostC at pc
    obtain ⟨_, q⟩ := pc
    rw [List.append_nil] at q
    have rb := r.back r1 s hvs
    rw [backS_wipe] at rb
    refine q _ H F rb s (.inl ⟨acc, D, rfl, rfl, ⟨accV, hD, hh.nF, ra⟩, hh.h0, fun j lv => ?_⟩)
    obtain ⟨hk, ⟨es, he⟩, hs⟩ := lv
    rcases hk with hk | hk
    · obtain ⟨v, e1, q⟩ := rb.mu j _ hk he
      rw [hs] at e1; cases e1
      rcases q with ⟨ds', a, e2, e3, ow, z⟩ | ⟨n, _⟩
      · cases e3
        refine hh.nl j ⟨.inl hk, ?_, ?_⟩
        · have hj : j ∉ vs := fun z => by have := hvs j z; rw [hk] at this; cases this
          rw [backE_out hj] at he
          exact ⟨es, he⟩
        · have hj : j ∉ vs := fun z => by have := hvs j z; rw [hk] at this; cases this
          rw [wipe_out hj]; exact hs
      · exact n es rfl
    · obtain ⟨b, e⟩ := rb.ioOnly j hk
      obtain ⟨_, _, _, e2, _⟩ := rb.io j b e
      rw [hs] at e2; cases e2
      exact (r.io j D e).2.1 hh.h0
  | some d =>
    obtain ⟨hlt, hdi⟩ := List.getElem?_eq_some_iff.mp hd
    have e0 : ds.drop i = d :: ds.drop (i + 1) := by rw [← hdi]; exact List.drop_eq_getElem_cons hlt
    rw [e0] at pc
    obtain ⟨go, y⟩ := k1 d hd
    refine .inr ⟨go, _, fun H' h => ⟨ds.length - (i + 1), by omega, rfl, h⟩, fun x H' hy => ?_⟩
    obtain ⟨F3, r3, s3, p3⟩ := y x H' hy
    unfold compR at pc
    cases e3 : f d ρ with
    | none => rw [e3] at pc; exact absurd pc (by intro z; exact z)
    | some ρ3 =>
      rw [e3] at pc
      dsimp only at pc
      refine hg (L.hold D accV) rfl _ _ _ _ ⟨F3, ρ, d, ρ3, r3, p3, e3, fun σ4 r4 ag => ?_⟩
      have hw : L2.wipe σ4 vs = L2.wipe σ vs := wipe_agr (ag.sub hsl)
      refine ⟨hw, htt (L.hold D accV) rfl _ _ _ ⟨F3, ρ3, r4, ?_⟩⟩
      cases e4 : t ρ3 with
      | stuck => rw [e4] at pc; exact absurd pc (by intro z; exact z)
      | exc x ρ5 => rw [e4] at pc; exact absurd pc (by intro z; exact z)
      | ok b ρ5 =>
        rw [e4] at pc
        intro b' H5 F5 r5 s5 p5
        have p5 : b' = b := p5
        subst p5
        cases b' with
        | false =>
          dsimp only at pc
          rw [if_neg Bool.false_ne_true]
          have r6 := r5.wipe (vs := vs) hvs
          rw [hw] at r6
          obtain ⟨h6, d6⟩ := Held.after r hh (s3.trans s5) r6
          exact ⟨F5, _, accV, acc, r6.unhold hh.h0 r.hio, (s.trans s3).trans s5, h6, d6, ra.mono (s3.trans s5), pc⟩
        | true =>
          dsimp only at pc
          rw [if_pos rfl]
          refine hte (L.hold D accV) rfl _ _ _ ⟨F5, ρ5, r5, ?_⟩
          cases e5 : e ρ5 with
          | stuck => rw [e5] at pc; exact absurd pc (by intro z; exact z)
          | exc x ρ6 => rw [e5] at pc; exact absurd pc (by intro z; exact z)
          | ok z ρ6 =>
            rw [e5] at pc
            intro yv H6 F6 r6 s6 p6
            dsimp only at pc
            have r7 := r6.wipe (vs := vs) hvs
            rw [hw] at r7
            have sF : Same F F6 := (s3.trans s5).trans s6
            obtain ⟨h7, d7⟩ := Held.after r hh sF r7
            cases e6 : compR f t e vs (ds.drop (i + 1)) (wipeE ρ6 vs) with
            | stuck => rw [e6] at pc; exact absurd pc (by intro z; exact z)
            | exc x ρ8 => rw [e6] at pc; exact absurd pc (by intro z; exact z)
            | ok xs ρ8 =>
              rw [e6] at pc
              obtain ⟨pl, pq⟩ := pc
              have el : acc ++ z :: xs = acc ++ [z] ++ xs := by rw [List.append_assoc]; rfl
              have hlen : accV.length < sizeLine := by
                rw [List.length_append, List.length_cons] at pl
                rw [line_eq, ra.length]
                omega
              have r8 := r7.unhold hh.h0 r.hio
              refine ⟨accV, d7, hlen, F6, _, accV ++ [yv], acc ++ [z], r8.updFree h7, s.trans sF, ⟨h7.h0, h7.nF, h7.nl⟩, upd_same, (ra.mono sF).append (.one p6), ?_⟩
              rw [e6]
              rw [el] at pl pq
              exact ⟨pl, pq⟩
theorem tLc_of {L : LC} {vs : List Nat} (hvs : ∀ v ∈ vs, L.S.ks[v]? = some Kd.p) (hsl : ∀ i ∈ sl, i ∈ vs) (g : TG) (tt : TT) (te : TE)
    (hg : ∀ L', L'.S = L.S → ∀ v σ H Q, tG L' sl f v σ H Q → g v σ H Q) (htt : ∀ L', L'.S = L.S → ∀ σ H Q, tT L' W0 t σ H Q → tt σ H Q) (hte : ∀ L', L'.S = L.S → ∀ σ H Q, tE L' W0 e σ H Q → te σ H Q) :
    ∀ σ H Q, tO L W (cLc gi f t e vs) σ H Q → tLc (rd L W (vI L.S) gi) g tt te vs σ H Q := fun σ H Q q => by
  obtain ⟨F, ρ, r, q⟩ := q
  refine ⟨F, ρ, r, (Post.bind (VP1 := vI L.S) q).imp fun J H1 ⟨F1, ρ1, ds, r1, s1, ok, q⟩ D nD => ?_⟩
  have pc : PostC L σ F1 ρ1 vs [] Q (compR f t e vs ds (wipeE ρ1 vs)) := by
    cases e1 : compR f t e vs ds (wipeE ρ1 vs) with
    | stuck => rw [e1] at q; exact absurd q (by intro z; exact z)
    | exc x ρ2 => rw [e1] at q; exact absurd q (by intro z; exact z)
    | ok xs ρ2 =>
      rw [e1] at q
      dsimp only at q
      by_cases hl : xs.length ≤ lineN
      · rw [if_pos hl] at q
        exact ⟨hl, q⟩
      · rw [if_neg hl] at q
        exact absurd q (by intro z; exact z)
  have rw1 := r1.wipe hvs
  refine ⟨fun i m H => m = ds.length - i ∧ ∃ F ρ accV acc, Rel L (L2.wipe σ vs) H F ρ ∧ Same F1 F ∧ Held L (L2.wipe σ vs) H F ρ D ∧ H D = some (.lst accV) ∧ RpA L.S.K L.S.G F accV acc ∧ PostC L σ F1 ρ1 vs acc Q (compR f t e vs (ds.drop i) ρ),
    ⟨ds.length, rfl, F1, _, [], [], rw1.newH nD, Same.refl _, Held.of_new rw1 nD, upd_same, .nil, by rw [List.drop_zero]; exact pc⟩, ?_⟩
  rintro i m H2 ⟨hm, F2, ρ2, accV, acc, r2, s2, h2, d2, a2, p2⟩
  exact lc_turns (r1 := r1) hvs hsl ok g tt te hg htt hte hm r2 s2 h2 d2 a2 p2
theorem eo_lc (hc : X.calm = true) (hN : X.N.Nodup) (hi : EI X S W tg it gi) (ok : BlkOk X.N X.env.scope scope own) (hvs : ∀ v ∈ own.map (·.2), S.ks[v]? = some Kd.p) (hsl : ∀ i ∈ sl, i ∈ own.map (·.2))
    (hg : ∀ (s : Shared) (H : Hp) (C : Addr) (cl : List (Str × Addr)) (fp : List Addr), EG (X.blk s H scope (compEnvC scope cl C X.env) fp) S tg sl f)
    (ht : ∀ (s : Shared) (H : Hp) (C : Addr) (cl : List (Str × Addr)) (fp : List Addr), ETs (X.blk s H scope (compEnvC scope cl C X.env) fp) S W0 ifs t)
    (he : ∀ (s : Shared) (H : Hp) (C : Addr) (cl : List (Str × Addr)) (fp : List Addr), EE (X.blk s H scope (compEnvC scope cl C X.env) fp) S W0 elt e)
    (hs : ∀ x, foldedSetIterable it X.env x = pure x) : EO X S W (.ListComp elt [⟨tg, it, ifs, 0⟩] scope pos) (cLc gi f t e (own.map (·.2))) := fun L hL => by
  subst hL
  exact PE.imp (pe_lc hc hN (hi L rfl) ok (fun s H C cl fp => PG.ex (hg s H C cl fp)) (fun s H C cl fp => PTs.ex (ht s H C cl fp)) (fun s H C cl fp => PE.ex (he s H C cl fp)) hs)
    (tLc_of hvs hsl _ _ _ (fun L' hL' v σ H Q q => ⟨L', hL', q⟩) (fun L' hL' σ H Q q => ⟨L', hL', q⟩) (fun L' hL' σ H Q q => ⟨L', hL', q⟩))
/-- name = [..] on one line, the name a local of frozen data -/
theorem es_setLc {own' : Bool} {i : Nat} {y : Str} {py spos : Pos} (hc : X.calm = true) (hN : X.N.Nodup) (hy : X.N[i]? = some y) (hyl : X.env.scope.names.lookup y = some .local) (hk : S.ks[i]? = some Kd.p)
    (hsw : swapsWith (.ListComp elt [⟨tg, it, ifs, 0⟩] scope pos) (some (.Name y py)) spos.line X.env = pure true) (hi : EI X S W tg it gi) (ok : BlkOk X.N X.env.scope scope own) (hvs : ∀ v ∈ own.map (·.2), S.ks[v]? = some Kd.p) (hsl : ∀ i ∈ sl, i ∈ own.map (·.2))
    (hg : ∀ (s : Shared) (H : Hp) (C : Addr) (cl : List (Str × Addr)) (fp : List Addr), EG (X.blk s H scope (compEnvC scope cl C X.env) fp) S tg sl f)
    (ht : ∀ (s : Shared) (H : Hp) (C : Addr) (cl : List (Str × Addr)) (fp : List Addr), ETs (X.blk s H scope (compEnvC scope cl C X.env) fp) S W0 ifs t)
    (he : ∀ (s : Shared) (H : Hp) (C : Addr) (cl : List (Str × Addr)) (fp : List Addr), EE (X.blk s H scope (compEnvC scope cl C X.env) fp) S W0 elt e)
    (hs : ∀ x, foldedSetIterable it X.env x = pure x) : ES X S W own' (.Assign [.Name y py] (.ListComp elt [⟨tg, it, ifs, 0⟩] scope pos) spos) (sAsg (cLc gi f t e (own.map (·.2))) (aName i)) := fun L hL => by
  subst hL
  refine PS.imp (ps_setLc hc hN hy hyl hsw (hi L rfl) ok (fun s H C cl fp => PG.ex (hg s H C cl fp)) (fun s H C cl fp => PTs.ex (ht s H C cl fp)) (fun s H C cl fp => PE.ex (he s H C cl fp)) hs) fun D σ H ⟨F, ρ, r, q⟩ => ?_
  have q2 : tE L W (cLc gi f t e (own.map (·.2))) σ H fun x H1 => gName i x σ H1 D.nx := ⟨F, ρ, r, (PostS.bind (VP := vE L) q).imp fun v H1 ⟨F1, ρ1, d, r1, s1, p1, q⟩ => q (σ.set i (some v)) H1 F1 (r1.setP hk p1) (Same.refl _)⟩
  exact tLc_of hvs hsl _ _ _ (fun L' hL' v σ H Q q => ⟨L', hL', q⟩) (fun L' hL' σ H Q q => ⟨L', hL', q⟩) (fun L' hL' σ H Q q => ⟨L', hL', q⟩) σ H _ (tE_of_tO q2)
end
end L2.PV
set_option Elab.async false
set_option linter.all false
set_option maxRecDepth 100000
set_option maxHeartbeats 2000000
namespace L2.PV
open PySem PySem.Spec PyProof.Rows
/-! ### comprehensions of two fors -/
def compR2 (f : Tg) (t : M Bool) (inner : M (List Dat)) (vs : List Nat) : List Dat → M (List Dat)
  | [], ρ => .ok [] ρ
  | d :: ds, ρ => match f d ρ with
    | none => .stuck
    | some ρ1 => match t ρ1 with
      | .ok true ρ2 => match inner ρ2 with
        | .ok xs ρ3 => match compR2 f t inner vs ds (wipeE ρ3 vs) with
          | .ok ys ρ4 => .ok (xs ++ ys) ρ4
          | _ => .stuck
        | _ => .stuck
      | .ok false ρ2 => compR2 f t inner vs ds (wipeE ρ2 vs)
      | _ => .stuck
def cIn (gi : M (List Dat)) (f : Tg) (t : M Bool) (e : M Dat) (vs : List Nat) : M (List Dat) := M.bind gi fun ds ρ => compR f t e vs ds (wipeE ρ vs)
def cLc2 (gi : M (List Dat)) (f : Tg) (t : M Bool) (inner : M (List Dat)) (vs : List Nat) : M Dat := M.bind gi fun ds ρ1 => match compR2 f t inner vs ds (wipeE ρ1 vs) with
  | .ok xs ρ2 => if xs.length ≤ lineN then .ok (.list xs) (backE ρ1 ρ2 vs) else .stuck
  | _ => .stuck
theorem PI.ex {X : Cx} {tg e : Expr} {S : Stc} {t : LC → TI} (h : ∀ L, L.S = S → PI X tg e (t L)) : PI X tg e (fun σ H Q => ∃ L, L.S = S ∧ t L σ H Q) := ⟨fun pins s σ H Q I ⟨L, hL, q⟩ => (h L hL).run pins s σ H Q I q⟩
theorem wipe_wipe {σ2 σw : L2.St} {vs1 vs : List Nat} (hw : L2.wipe σ2 vs = σw) (h : ∀ i ∈ vs1, i ∈ vs) : L2.wipe (L2.wipe σ2 vs1) vs = σw := by
  rw [← hw]
  refine List.ext_getElem? fun i => ?_
  by_cases hi : i ∈ vs
  · by_cases hlt : i < σ2.length
    · rw [wipe_in hi (by rw [wipe_length]; exact hlt), wipe_in hi hlt]
    · rw [List.getElem?_eq_none (by rw [wipe_length, wipe_length]; omega), List.getElem?_eq_none (by rw [wipe_length]; omega)]
  · rw [wipe_out hi, wipe_out hi, wipe_out fun z => hi (h i z)]
def PostG (PC : List Dat → Env → Prop) (acc : List Dat) : R (List Dat) → Prop
  | .ok xs ρ2 => (acc ++ xs).length ≤ lineN ∧ PC (acc ++ xs) ρ2
  | _ => False
section
variable {X : Cx} {S : Stc} {W : WX} {tg it elt : Expr} {ifs : List Expr} {scope : Scope} {own : List (Str × Nat)} {pos : Pos} {gi : M (List Dat)} {f : Tg} {t : M Bool} {e : M Dat} {sl : List Nat}
/-- the turns of the last for, whatever comes behind them -/
theorem lc_turnsG {L : LC} {J : It} {ds : List Dat} {F1 : Hp} {σ : L2.St} {vs : List Nat} {D : Addr} {Qd : Hp → Prop} {PC : List Dat → Env → Prop} (hvs : ∀ v ∈ vs, L.S.ks[v]? = some Kd.p) (hsl : ∀ i ∈ sl, i ∈ vs) (ok : IterOk L.S J ds F1)
    (hfin : ∀ F ρ accV acc H, Rel L (L2.wipe σ vs) H F ρ → Same F1 F → Held L (L2.wipe σ vs) H F ρ D → H D = some (.lst accV) → RpA L.S.K L.S.G F accV acc → PC acc ρ → Qd H)
    (g : TG) (tt : TT) (te : TE) (hg : ∀ L', L'.S = L.S → ∀ v σ H Q, tG L' sl f v σ H Q → g v σ H Q) (htt : ∀ L', L'.S = L.S → ∀ σ H Q, tT L' W0 t σ H Q → tt σ H Q) (hte : ∀ L', L'.S = L.S → ∀ σ H Q, tE L' W0 e σ H Q → te σ H Q)
    {i m : Nat} {H : Hp} (hm : m = ds.length - i) {F : Hp} {ρ : Env} {accV : List V} {acc : List Dat} (r : Rel L (L2.wipe σ vs) H F ρ) (s : Same F1 F) (hh : Held L (L2.wipe σ vs) H F ρ D) (hD : H D = some (.lst accV)) (ra : RpA L.S.K L.S.G F accV acc)
    (pc : PostG PC acc (compR f t e vs (ds.drop i) ρ)) :
    (J.stop i H ∧ Qd H) ∨ (J.go i H ∧ ∃ Nx : Hp → Prop, (∀ H', Nx H' → ∃ m', m' < m ∧ (m' = ds.length - (i + 1) ∧ ∃ F ρ accV acc, Rel L (L2.wipe σ vs) H' F ρ ∧ Same F1 F ∧ Held L (L2.wipe σ vs) H' F ρ D ∧ H' D = some (.lst accV) ∧ RpA L.S.K L.S.G F accV acc ∧ PostG PC acc (compR f t e vs (ds.drop (i + 1)) ρ))) ∧
      ∀ x H', J.yld i H x H' → g x (L2.wipe σ vs) H' fun σ2 H2 => L2.wipe σ2 vs = L2.wipe σ vs ∧ tt σ2 H2 fun b H3 => if b = true then te σ2 H3 fun y H4 => ∃ acc, H4 D = some (.lst acc) ∧ acc.length < sizeLine ∧ Nx (upd H4 D (.lst (acc ++ [y]))) else Nx H3) := by
  have rh : Rel (L.hold D accV) (L2.wipe σ vs) H F ρ := r.hold hh hD
  obtain ⟨k1, k2⟩ := ok (L.hold D accV) rfl i _ H F ρ rh s
  cases hd : ds[i]? with
  | none =>
    refine .inl ⟨k2 hd, ?_⟩
    have e0 : ds.drop i = [] := List.drop_eq_nil_of_le (List.getElem?_eq_none_iff.mp hd)
    rw [e0] at pc
    unfold compR PostG at pc
    obtain ⟨_, q⟩ := pc
    rw [List.append_nil] at q
    exact hfin F ρ accV acc H r s hh hD ra q
  | some d =>
    obtain ⟨hlt, hdi⟩ := List.getElem?_eq_some_iff.mp hd
    have e0 : ds.drop i = d :: ds.drop (i + 1) := by rw [← hdi]; exact List.drop_eq_getElem_cons hlt
    rw [e0] at pc
    obtain ⟨go, y⟩ := k1 d hd
    refine .inr ⟨go, _, fun H' h => ⟨ds.length - (i + 1), by omega, rfl, h⟩, fun x H' hy => ?_⟩
    obtain ⟨F3, r3, s3, p3⟩ := y x H' hy
    unfold compR at pc
    cases e3 : f d ρ with
    | none => rw [e3] at pc; exact absurd pc (by intro z; exact z)
    | some ρ3 =>
      rw [e3] at pc
      dsimp only at pc
      refine hg (L.hold D accV) rfl _ _ _ _ ⟨F3, ρ, d, ρ3, r3, p3, e3, fun σ4 r4 ag => ?_⟩
      have hw : L2.wipe σ4 vs = L2.wipe σ vs := wipe_agr (ag.sub hsl)
      refine ⟨hw, htt (L.hold D accV) rfl _ _ _ ⟨F3, ρ3, r4, ?_⟩⟩
      cases e4 : t ρ3 with
      | stuck => rw [e4] at pc; exact absurd pc (by intro z; exact z)
      | exc x ρ5 => rw [e4] at pc; exact absurd pc (by intro z; exact z)
      | ok b ρ5 =>
        rw [e4] at pc
        intro b' H5 F5 r5 s5 p5
        have p5 : b' = b := p5
        subst p5
        cases b' with
        | false =>
          dsimp only at pc
          rw [if_neg Bool.false_ne_true]
          have r6 := r5.wipe (vs := vs) hvs
          rw [hw] at r6
          obtain ⟨h6, d6⟩ := Held.after r hh (s3.trans s5) r6
          exact ⟨F5, _, accV, acc, r6.unhold hh.h0 r.hio, (s.trans s3).trans s5, h6, d6, ra.mono (s3.trans s5), pc⟩
        | true =>
          dsimp only at pc
          rw [if_pos rfl]
          refine hte (L.hold D accV) rfl _ _ _ ⟨F5, ρ5, r5, ?_⟩
          cases e5 : e ρ5 with
          | stuck => rw [e5] at pc; exact absurd pc (by intro z; exact z)
          | exc x ρ6 => rw [e5] at pc; exact absurd pc (by intro z; exact z)
          | ok z ρ6 =>
            rw [e5] at pc
            intro yv H6 F6 r6 s6 p6
            dsimp only at pc
            have r7 := r6.wipe (vs := vs) hvs
            rw [hw] at r7
            have sF : Same F F6 := (s3.trans s5).trans s6
            obtain ⟨h7, d7⟩ := Held.after r hh sF r7
            cases e6 : compR f t e vs (ds.drop (i + 1)) (wipeE ρ6 vs) with
            | stuck => rw [e6] at pc; exact absurd pc (by intro z; exact z)
            | exc x ρ8 => rw [e6] at pc; exact absurd pc (by intro z; exact z)
            | ok xs ρ8 =>
              rw [e6] at pc
              obtain ⟨pl, pq⟩ := pc
              have el : acc ++ z :: xs = acc ++ [z] ++ xs := by rw [List.append_assoc]; rfl
              have hlen : accV.length < sizeLine := by
                rw [List.length_append, List.length_cons] at pl
                rw [line_eq, ra.length]
                omega
              have r8 := r7.unhold hh.h0 r.hio
              refine ⟨accV, d7, hlen, F6, _, accV ++ [yv], acc ++ [z], r8.updFree h7, s.trans sF, ⟨h7.h0, h7.nF, h7.nl⟩, upd_same, (ra.mono sF).append (.one p6), ?_⟩
              rw [e6]
              rw [el] at pl pq
              exact ⟨pl, pq⟩
theorem PostC.of {L : LC} {σ : L2.St} {F1 : Hp} {ρ1 : Env} {vs : List Nat} {acc : List Dat} {Q : VK} {o : R (List Dat)} (h : PostC L σ F1 ρ1 vs acc Q o) : PostG (fun xs ρ2 => Post L W0 σ F1 (vO L) (.ok (.list xs) (backE ρ1 ρ2 vs)) Q) acc o := by
  cases o with
  | ok xs ρ2 => exact h
  | stuck => exact h
  | exc x ρ => exact h
/-- the end: the new list is the value -/
theorem lc_fin {L : LC} {F1 : Hp} {ρ1 : Env} {σ : L2.St} {vs : List Nat} {D : Addr} {Q : VK} {H0 : Hp} (r1 : Rel L σ H0 F1 ρ1) (hvs : ∀ v ∈ vs, L.S.ks[v]? = some Kd.p)
    {F : Hp} {ρ : Env} {accV : List V} {acc : List Dat} {H : Hp} (r : Rel L (L2.wipe σ vs) H F ρ) (s : Same F1 F) (hh : Held L (L2.wipe σ vs) H F ρ D) (hD : H D = some (.lst accV)) (ra : RpA L.S.K L.S.G F accV acc)
    (q : Post L W0 σ F1 (vO L) (.ok (.list acc) (backE ρ1 ρ vs)) Q) : Q (.ref D) H := by
  have rb := r.back r1 s hvs
  rw [backS_wipe] at rb
  refine q _ H F rb s (.inl ⟨acc, D, rfl, rfl, ⟨accV, hD, hh.nF, ra⟩, hh.h0, fun j lv => ?_⟩)
  obtain ⟨hk, ⟨es, he⟩, hs⟩ := lv
  rcases hk with hk | hk
  · obtain ⟨v, e1, q⟩ := rb.mu j _ hk he
    rw [hs] at e1; cases e1
    rcases q with ⟨ds', a, e2, e3, ow, z⟩ | ⟨n, _⟩
    · cases e3
      refine hh.nl j ⟨.inl hk, ?_, ?_⟩
      · have hj : j ∉ vs := fun z => by have := hvs j z; rw [hk] at this; cases this
        rw [backE_out hj] at he
        exact ⟨es, he⟩
      · have hj : j ∉ vs := fun z => by have := hvs j z; rw [hk] at this; cases this
        rw [wipe_out hj]; exact hs
    · exact n es rfl
  · obtain ⟨b, e⟩ := rb.ioOnly j hk
    obtain ⟨_, _, _, e2, _⟩ := rb.io j b e
    rw [hs] at e2; cases e2
    exact (r.io j D e).2.1 hh.h0
variable {gi1 : M (List Dat)} {f1 : Tg} {t1 : M Bool} {sl1 : List Nat}
/-- the turns of the outer for -/
theorem lc_turns2 {L : LC} {J : It} {ds : List Dat} {F1 : Hp} {σ : L2.St} {vs vs1 : List Nat} {D : Addr} {Qd : Hp → Prop} {PC : List Dat → Env → Prop} (hvs : ∀ v ∈ vs, L.S.ks[v]? = some Kd.p) (hsl : ∀ i ∈ sl, i ∈ vs) (hv1 : ∀ i ∈ vs1, i ∈ vs) (hsl1 : ∀ i ∈ sl1, i ∈ vs1) (ok : IterOk L.S J ds F1)
    (hfin : ∀ F ρ accV acc H, Rel L (L2.wipe σ vs) H F ρ → Same F1 F → Held L (L2.wipe σ vs) H F ρ D → H D = some (.lst accV) → RpA L.S.K L.S.G F accV acc → PC acc ρ → Qd H)
    (g : TG) (tt : TT) (wi1 : TI) (g1 : TG) (tt1 : TT) (te : TE) (hg : ∀ L', L'.S = L.S → ∀ v σ H Q, tG L' sl f v σ H Q → g v σ H Q) (htt : ∀ L', L'.S = L.S → ∀ σ H Q, tT L' W0 t σ H Q → tt σ H Q)
    (hwi1 : ∀ L', L'.S = L.S → ∀ σ H Q, rd L' W0 (vI L.S) gi1 σ H Q → wi1 σ H Q) (hg1 : ∀ L', L'.S = L.S → ∀ v σ H Q, tG L' sl1 f1 v σ H Q → g1 v σ H Q) (htt1 : ∀ L', L'.S = L.S → ∀ σ H Q, tT L' W0 t1 σ H Q → tt1 σ H Q) (hte : ∀ L', L'.S = L.S → ∀ σ H Q, tE L' W0 e σ H Q → te σ H Q)
    {i m : Nat} {H : Hp} (hm : m = ds.length - i) {F : Hp} {ρ : Env} {accV : List V} {acc : List Dat} (r : Rel L (L2.wipe σ vs) H F ρ) (s : Same F1 F) (hh : Held L (L2.wipe σ vs) H F ρ D) (hD : H D = some (.lst accV)) (ra : RpA L.S.K L.S.G F accV acc)
    (pc : PostG PC acc (compR2 f t (cIn gi1 f1 t1 e vs1) vs (ds.drop i) ρ)) :
    (J.stop i H ∧ Qd H) ∨ (J.go i H ∧ ∃ Nx : Hp → Prop, (∀ H', Nx H' → ∃ m', m' < m ∧ (m' = ds.length - (i + 1) ∧ ∃ F ρ accV acc, Rel L (L2.wipe σ vs) H' F ρ ∧ Same F1 F ∧ Held L (L2.wipe σ vs) H' F ρ D ∧ H' D = some (.lst accV) ∧ RpA L.S.K L.S.G F accV acc ∧ PostG PC acc (compR2 f t (cIn gi1 f1 t1 e vs1) vs (ds.drop (i + 1)) ρ))) ∧
      ∀ x H', J.yld i H x H' → g x (L2.wipe σ vs) H' fun σ2 H2 => L2.wipe σ2 vs = L2.wipe σ vs ∧ tt σ2 H2 fun b H3 => if b = true then wi1 σ2 H3 fun J1 H4 => ∃ W1 : Nat → Nat → Hp → Prop, (∃ m, W1 0 m H4) ∧ ∀ j k H, W1 j k H →
      (J1.stop j H ∧ Nx H) ∨ (J1.go j H ∧ ∃ Nx1 : Hp → Prop, (∀ H', Nx1 H' → ∃ k', k' < k ∧ W1 (j + 1) k' H') ∧ ∀ x H', J1.yld j H x H' → g1 x (L2.wipe σ2 vs1) H' fun σ3 H5 => L2.wipe σ3 vs1 = L2.wipe σ2 vs1 ∧ tt1 σ3 H5 fun b H6 =>
        if b = true then te σ3 H6 fun y H7 => ∃ acc, H7 D = some (.lst acc) ∧ acc.length < sizeLine ∧ Nx1 (upd H7 D (.lst (acc ++ [y]))) else Nx1 H6)
    else Nx H3) := by
  have rh : Rel (L.hold D accV) (L2.wipe σ vs) H F ρ := r.hold hh hD
  obtain ⟨k1, k2⟩ := ok (L.hold D accV) rfl i _ H F ρ rh s
  cases hd : ds[i]? with
  | none =>
    refine .inl ⟨k2 hd, ?_⟩
    have e0 : ds.drop i = [] := List.drop_eq_nil_of_le (List.getElem?_eq_none_iff.mp hd)
    rw [e0] at pc
    unfold compR2 PostG at pc
    obtain ⟨_, q⟩ := pc
    rw [List.append_nil] at q
    exact hfin F ρ accV acc H r s hh hD ra q
  | some d =>
    obtain ⟨hlt, hdi⟩ := List.getElem?_eq_some_iff.mp hd
    have e0 : ds.drop i = d :: ds.drop (i + 1) := by rw [← hdi]; exact List.drop_eq_getElem_cons hlt
    rw [e0] at pc
    obtain ⟨go, y⟩ := k1 d hd
    refine .inr ⟨go, _, fun H' h => ⟨ds.length - (i + 1), by omega, rfl, h⟩, fun x H' hy => ?_⟩
    obtain ⟨F3, r3, s3, p3⟩ := y x H' hy
    unfold compR2 at pc
    cases e3 : f d ρ with
    | none => rw [e3] at pc; exact absurd pc (by intro z; exact z)
    | some ρ3 =>
      rw [e3] at pc
      dsimp only at pc
      refine hg (L.hold D accV) rfl _ _ _ _ ⟨F3, ρ, d, ρ3, r3, p3, e3, fun σ4 r4 ag => ?_⟩
      have hw : L2.wipe σ4 vs = L2.wipe σ vs := wipe_agr (ag.sub hsl)
      refine ⟨hw, htt (L.hold D accV) rfl _ _ _ ⟨F3, ρ3, r4, ?_⟩⟩
      cases e4 : t ρ3 with
      | stuck => rw [e4] at pc; exact absurd pc (by intro z; exact z)
      | exc x ρ5 => rw [e4] at pc; exact absurd pc (by intro z; exact z)
      | ok b ρ5 =>
        rw [e4] at pc
        intro b' H5 F5 r5 s5 p5
        have p5 : b' = b := p5
        subst p5
        cases b' with
        | false =>
          dsimp only at pc
          rw [if_neg Bool.false_ne_true]
          have r6 := r5.wipe (vs := vs) hvs
          rw [hw] at r6
          obtain ⟨h6, d6⟩ := Held.after r hh (s3.trans s5) r6
          exact ⟨F5, _, accV, acc, r6.unhold hh.h0 r.hio, (s.trans s3).trans s5, h6, d6, ra.mono (s3.trans s5), pc⟩
        | true =>
          dsimp only at pc
          rw [if_pos rfl]
          refine hwi1 (L.hold D accV) rfl _ _ _ ⟨F5, ρ5, r5, ?_⟩
          unfold cIn M.bind at pc
          cases e5 : gi1 ρ5 with
          | stuck => rw [e5] at pc; exact absurd pc (by intro z; exact z)
          | exc x ρ6 => rw [e5] at pc; exact absurd pc (by intro z; exact z)
          | ok ds1 ρ6 =>
            rw [e5] at pc
            intro J1 H6 F6 r6 s6 ok1
            have ok1 : IterOk L.S J1 ds1 F6 := ok1
            dsimp only at pc
            have sF : Same F F6 := (s3.trans s5).trans s6
            have hvs1 : ∀ v ∈ vs1, L.S.ks[v]? = some Kd.p := fun v hv => hvs v (hv1 v hv)
            have r7 := r6.wipe (vs := vs1) hvs1
            obtain ⟨h7, d7⟩ := Held.after r hh sF r7
            have r8 := r7.unhold hh.h0 r.hio
            refine ⟨fun j k H => k = ds1.length - j ∧ ∃ F ρ accV acc, Rel L (L2.wipe σ4 vs1) H F ρ ∧ Same F6 F ∧ Held L (L2.wipe σ4 vs1) H F ρ D ∧ H D = some (.lst accV) ∧ RpA L.S.K L.S.G F accV acc ∧ PostG (fun xs ρ' => PostG PC xs (compR2 f t (cIn gi1 f1 t1 e vs1) vs (ds.drop (i + 1)) (wipeE ρ' vs))) acc (compR f1 t1 e vs1 (ds1.drop j) ρ),
              ⟨ds1.length, rfl, F6, _, accV, acc, r8, Same.refl _, ⟨h7.h0, h7.nF, h7.nl⟩, d7, ra.mono sF, ?_⟩, ?_⟩
            · rw [List.drop_zero]
              cases e6 : compR f1 t1 e vs1 ds1 (wipeE ρ6 vs1) with
              | stuck => rw [e6] at pc; exact absurd pc (by intro z; exact z)
              | exc x ρ8 => rw [e6] at pc; exact absurd pc (by intro z; exact z)
              | ok xs ρ8 =>
                rw [e6] at pc
                dsimp only at pc
                show (acc ++ xs).length ≤ lineN ∧ PostG PC (acc ++ xs) (compR2 f t (cIn gi1 f1 t1 e vs1) vs (ds.drop (i + 1)) (wipeE ρ8 vs))
                have ec : (fun ds => compR2 f t (cIn gi1 f1 t1 e vs1) vs ds) = (fun ds => compR2 f t (cIn gi1 f1 t1 e vs1) vs ds) := rfl
                change PostG PC acc (match compR2 f t (cIn gi1 f1 t1 e vs1) vs (ds.drop (i + 1)) (wipeE ρ8 vs) with
                  | .ok ys ρ4 => .ok (xs ++ ys) ρ4
                  | _ => .stuck) at pc
                cases e9 : compR2 f t (cIn gi1 f1 t1 e vs1) vs (ds.drop (i + 1)) (wipeE ρ8 vs) with
                | stuck => rw [e9] at pc; exact absurd pc (by intro z; exact z)
                | exc x ρ9 => rw [e9] at pc; exact absurd pc (by intro z; exact z)
                | ok ys ρ9 =>
                  rw [e9] at pc
                  obtain ⟨pl, pq⟩ := pc
                  rw [← List.append_assoc] at pl pq
                  refine ⟨?_, pl, pq⟩
                  rw [List.length_append] at pl
                  omega
            · rintro j k H9 ⟨hk, F9, ρ9, accV9, acc9, r9, s9, h9, d9, a9, p9⟩
              refine lc_turnsG (L := L) (Qd := fun H' => ∃ F ρ accV acc, Rel L (L2.wipe σ vs) H' F ρ ∧ Same F1 F ∧ Held L (L2.wipe σ vs) H' F ρ D ∧ H' D = some (.lst accV) ∧ RpA L.S.K L.S.G F accV acc ∧ PostG PC acc (compR2 f t (cIn gi1 f1 t1 e vs1) vs (ds.drop (i + 1)) ρ)) hvs1 hsl1 ok1 (fun F ρ accV acc H' rr ss hh' dd aa pp => ?_) g1 tt1 te hg1 htt1 hte hk r9 s9 h9 d9 a9 p9
              have rw2 := rr.wipe (vs := vs) hvs
              rw [wipe_wipe hw hv1] at rw2
              refine ⟨F, _, accV, acc, rw2, (s.trans sF).trans ss, ⟨hh'.h0, hh'.nF, fun i lv => ?_⟩, dd, aa, pp⟩
              obtain ⟨hk, ⟨es, he⟩, hs⟩ := lv
              rcases hk with hk | hk
              · have hj : i ∉ vs := fun z => by have := hvs i z; rw [hk] at this; cases this
                obtain ⟨v, e1, q⟩ := rw2.mu i _ hk he
                rw [hs] at e1; cases e1
                rcases q with ⟨ds', a, e2, e3, ow, z⟩ | ⟨n, _⟩
                · cases e3
                  refine hh'.nl i ⟨.inl hk, ?_, ?_⟩
                  · have hz : ∀ {vs : List Nat}, i ∉ vs → (wipeE ρ vs)[i]? = ρ[i]? := fun {vs} => by
                      induction vs with
                      | nil => intro _; rfl
                      | cons v vs ih =>
                        intro h
                        unfold wipeE
                        rw [List.getElem?_set_ne fun z => h (by rw [z]; exact List.mem_cons_self ..)]
                        exact ih fun z => h (List.mem_cons_of_mem _ z)
                    rw [hz hj] at he
                    exact ⟨es, he⟩
                  · rw [wipe_out fun z => hj (hv1 i z), ← wipe_out (σ := σ4) hj, hw]; exact hs
                · exact n es rfl
              · obtain ⟨b, e⟩ := rw2.ioOnly i hk
                obtain ⟨_, _, _, e2, _⟩ := rw2.io i b e
                rw [hs] at e2; cases e2
                exact (r.io i D e).2.1 hh.h0
theorem tLc2_of {L : LC} {vs vs1 : List Nat} (hvs : ∀ v ∈ vs, L.S.ks[v]? = some Kd.p) (hsl : ∀ i ∈ sl, i ∈ vs) (hv1 : ∀ i ∈ vs1, i ∈ vs) (hsl1 : ∀ i ∈ sl1, i ∈ vs1) (g : TG) (tt : TT) (wi1 : TI) (g1 : TG) (tt1 : TT) (te : TE)
    (hg : ∀ L', L'.S = L.S → ∀ v σ H Q, tG L' sl f v σ H Q → g v σ H Q) (htt : ∀ L', L'.S = L.S → ∀ σ H Q, tT L' W0 t σ H Q → tt σ H Q)
    (hwi1 : ∀ L', L'.S = L.S → ∀ σ H Q, rd L' W0 (vI L.S) gi1 σ H Q → wi1 σ H Q) (hg1 : ∀ L', L'.S = L.S → ∀ v σ H Q, tG L' sl1 f1 v σ H Q → g1 v σ H Q) (htt1 : ∀ L', L'.S = L.S → ∀ σ H Q, tT L' W0 t1 σ H Q → tt1 σ H Q) (hte : ∀ L', L'.S = L.S → ∀ σ H Q, tE L' W0 e σ H Q → te σ H Q) :
    ∀ σ H Q, tO L W (cLc2 gi f t (cIn gi1 f1 t1 e vs1) vs) σ H Q → tLc2 (rd L W (vI L.S) gi) g tt wi1 g1 tt1 te vs vs1 σ H Q := fun σ H Q q => by
  obtain ⟨F, ρ, r, q⟩ := q
  refine ⟨F, ρ, r, (Post.bind (VP1 := vI L.S) q).imp fun J H1 ⟨F1, ρ1, ds, r1, s1, ok, q⟩ D nD => ?_⟩
  have pc : PostG (fun xs ρ2 => Post L W0 σ F1 (vO L) (.ok (.list xs) (backE ρ1 ρ2 vs)) Q) [] (compR2 f t (cIn gi1 f1 t1 e vs1) vs ds (wipeE ρ1 vs)) := by
    cases e1 : compR2 f t (cIn gi1 f1 t1 e vs1) vs ds (wipeE ρ1 vs) with
    | stuck => rw [e1] at q; exact absurd q (by intro z; exact z)
    | exc x ρ2 => rw [e1] at q; exact absurd q (by intro z; exact z)
    | ok xs ρ2 =>
      rw [e1] at q
      dsimp only at q
      by_cases hl : xs.length ≤ lineN
      · rw [if_pos hl] at q
        exact ⟨hl, q⟩
      · rw [if_neg hl] at q
        exact absurd q (by intro z; exact z)
  have rw1 := r1.wipe hvs
  refine ⟨fun i m H => m = ds.length - i ∧ ∃ F ρ accV acc, Rel L (L2.wipe σ vs) H F ρ ∧ Same F1 F ∧ Held L (L2.wipe σ vs) H F ρ D ∧ H D = some (.lst accV) ∧ RpA L.S.K L.S.G F accV acc ∧ PostG (fun xs ρ2 => Post L W0 σ F1 (vO L) (.ok (.list xs) (backE ρ1 ρ2 vs)) Q) acc (compR2 f t (cIn gi1 f1 t1 e vs1) vs (ds.drop i) ρ),
    ⟨ds.length, rfl, F1, _, [], [], rw1.newH nD, Same.refl _, Held.of_new rw1 nD, upd_same, .nil, by rw [List.drop_zero]; exact pc⟩, ?_⟩
  rintro i m H2 ⟨hm, F2, ρ2, accV, acc, r2, s2, h2, d2, a2, p2⟩
  exact lc_turns2 hvs hsl hv1 hsl1 ok (fun F ρ accV acc H rr ss hh dd aa pp => lc_fin r1 hvs rr ss hh dd aa pp) g tt wi1 g1 tt1 te hg htt hwi1 hg1 htt1 hte hm r2 s2 h2 d2 a2 p2
variable {tg1 it1 : Expr} {ifs1 : List Expr} {vs1 : List Nat}
theorem eo_lc2 (hc : X.calm = true) (hN : X.N.Nodup) (hi : EI X S W tg it gi) (ok : BlkOk X.N X.env.scope scope own) (hv1 : ∀ i ∈ vs1, i ∈ own.map (·.2)) (hvs : ∀ v ∈ own.map (·.2), S.ks[v]? = some Kd.p) (hsl : ∀ i ∈ sl, i ∈ own.map (·.2)) (hsl1 : ∀ i ∈ sl1, i ∈ vs1)
    (hg : ∀ (s : Shared) (H : Hp) (C : Addr) (cl : List (Str × Addr)) (fp : List Addr), EG (X.blk s H scope (compEnvC scope cl C X.env) fp) S tg sl f)
    (ht : ∀ (s : Shared) (H : Hp) (C : Addr) (cl : List (Str × Addr)) (fp : List Addr), ETs (X.blk s H scope (compEnvC scope cl C X.env) fp) S W0 ifs t)
    (hi1 : ∀ (s : Shared) (H : Hp) (C : Addr) (cl : List (Str × Addr)) (fp : List Addr), EI (X.blk s H scope (compEnvC scope cl C X.env) fp) S W0 tg1 it1 gi1)
    (hg1 : ∀ (s : Shared) (H : Hp) (C : Addr) (cl : List (Str × Addr)) (fp : List Addr), EG (X.blk s H scope (compEnvC scope cl C X.env) fp) S tg1 sl1 f1)
    (ht1 : ∀ (s : Shared) (H : Hp) (C : Addr) (cl : List (Str × Addr)) (fp : List Addr), ETs (X.blk s H scope (compEnvC scope cl C X.env) fp) S W0 ifs1 t1)
    (he : ∀ (s : Shared) (H : Hp) (C : Addr) (cl : List (Str × Addr)) (fp : List Addr), EE (X.blk s H scope (compEnvC scope cl C X.env) fp) S W0 elt e)
    (hs : ∀ x, foldedSetIterable it X.env x = pure x) (hs1 : ∀ env x, foldedSetIterable it1 env x = pure x) : EO X S W (.ListComp elt [⟨tg, it, ifs, 0⟩, ⟨tg1, it1, ifs1, 0⟩] scope pos) (cLc2 gi f t (cIn gi1 f1 t1 e vs1) (own.map (·.2))) := fun L hL => by
  subst hL
  exact PE.imp (pe_lc2 hc hN (hi L rfl) ok hv1 (fun s H C cl fp => PG.ex (hg s H C cl fp)) (fun s H C cl fp => PTs.ex (ht s H C cl fp)) (fun s H C cl fp => PI.ex (hi1 s H C cl fp)) (fun s H C cl fp => PG.ex (hg1 s H C cl fp)) (fun s H C cl fp => PTs.ex (ht1 s H C cl fp)) (fun s H C cl fp => PE.ex (he s H C cl fp)) hs hs1)
    (tLc2_of hvs hsl hv1 hsl1 _ _ _ _ _ _ (fun L' hL' v σ H Q q => ⟨L', hL', q⟩) (fun L' hL' σ H Q q => ⟨L', hL', q⟩) (fun L' hL' σ H Q q => ⟨L', hL', q⟩) (fun L' hL' v σ H Q q => ⟨L', hL', q⟩) (fun L' hL' σ H Q q => ⟨L', hL', q⟩) (fun L' hL' σ H Q q => ⟨L', hL', q⟩))
theorem es_setLc2 {own' : Bool} {i : Nat} {y : Str} {py spos : Pos} (hc : X.calm = true) (hN : X.N.Nodup) (hy : X.N[i]? = some y) (hyl : X.env.scope.names.lookup y = some .local) (hk : S.ks[i]? = some Kd.p)
    (hsw : swapsWith (.ListComp elt [⟨tg, it, ifs, 0⟩, ⟨tg1, it1, ifs1, 0⟩] scope pos) (some (.Name y py)) spos.line X.env = pure true) (hi : EI X S W tg it gi) (ok : BlkOk X.N X.env.scope scope own) (hv1 : ∀ i ∈ vs1, i ∈ own.map (·.2)) (hvs : ∀ v ∈ own.map (·.2), S.ks[v]? = some Kd.p) (hsl : ∀ i ∈ sl, i ∈ own.map (·.2)) (hsl1 : ∀ i ∈ sl1, i ∈ vs1)
    (hg : ∀ (s : Shared) (H : Hp) (C : Addr) (cl : List (Str × Addr)) (fp : List Addr), EG (X.blk s H scope (compEnvC scope cl C X.env) fp) S tg sl f)
    (ht : ∀ (s : Shared) (H : Hp) (C : Addr) (cl : List (Str × Addr)) (fp : List Addr), ETs (X.blk s H scope (compEnvC scope cl C X.env) fp) S W0 ifs t)
    (hi1 : ∀ (s : Shared) (H : Hp) (C : Addr) (cl : List (Str × Addr)) (fp : List Addr), EI (X.blk s H scope (compEnvC scope cl C X.env) fp) S W0 tg1 it1 gi1)
    (hg1 : ∀ (s : Shared) (H : Hp) (C : Addr) (cl : List (Str × Addr)) (fp : List Addr), EG (X.blk s H scope (compEnvC scope cl C X.env) fp) S tg1 sl1 f1)
    (ht1 : ∀ (s : Shared) (H : Hp) (C : Addr) (cl : List (Str × Addr)) (fp : List Addr), ETs (X.blk s H scope (compEnvC scope cl C X.env) fp) S W0 ifs1 t1)
    (he : ∀ (s : Shared) (H : Hp) (C : Addr) (cl : List (Str × Addr)) (fp : List Addr), EE (X.blk s H scope (compEnvC scope cl C X.env) fp) S W0 elt e)
    (hs : ∀ x, foldedSetIterable it X.env x = pure x) (hs1 : ∀ env x, foldedSetIterable it1 env x = pure x) : ES X S W own' (.Assign [.Name y py] (.ListComp elt [⟨tg, it, ifs, 0⟩, ⟨tg1, it1, ifs1, 0⟩] scope pos) spos) (sAsg (cLc2 gi f t (cIn gi1 f1 t1 e vs1) (own.map (·.2))) (aName i)) := fun L hL => by
  subst hL
  refine PS.imp (ps_setLc2 hc hN hy hyl hsw (hi L rfl) ok hv1 (fun s H C cl fp => PG.ex (hg s H C cl fp)) (fun s H C cl fp => PTs.ex (ht s H C cl fp)) (fun s H C cl fp => PI.ex (hi1 s H C cl fp)) (fun s H C cl fp => PG.ex (hg1 s H C cl fp)) (fun s H C cl fp => PTs.ex (ht1 s H C cl fp)) (fun s H C cl fp => PE.ex (he s H C cl fp)) hs hs1) fun D σ H ⟨F, ρ, r, q⟩ => ?_
  have q2 : tE L W (cLc2 gi f t (cIn gi1 f1 t1 e vs1) (own.map (·.2))) σ H fun x H1 => gName i x σ H1 D.nx := ⟨F, ρ, r, (PostS.bind (VP := vE L) q).imp fun v H1 ⟨F1, ρ1, d, r1, s1, p1, q⟩ => q (σ.set i (some v)) H1 F1 (r1.setP hk p1) (Same.refl _)⟩
  exact tLc2_of hvs hsl hv1 hsl1 _ _ _ _ _ _ (fun L' hL' v σ H Q q => ⟨L', hL', q⟩) (fun L' hL' σ H Q q => ⟨L', hL', q⟩) (fun L' hL' σ H Q q => ⟨L', hL', q⟩) (fun L' hL' v σ H Q q => ⟨L', hL', q⟩) (fun L' hL' σ H Q q => ⟨L', hL', q⟩) (fun L' hL' σ H Q q => ⟨L', hL', q⟩) σ H _ (tE_of_tO q2)
end
end L2.PV
set_option Elab.async false
set_option linter.all false
set_option maxRecDepth 100000
set_option maxHeartbeats 2000000
namespace L2.PV
open PySem PySem.Spec PyProof.Rows
/-! ### the lists of one's own read as frozen, while a plain expression runs -/
def allP (S : Stc) : Stc := { S with ks := S.ks.map fun _ => Kd.p }
mutual
/-- no list in it -/
def lf : Dat → Bool
  | .list _ => false
  | .dict [(.str _, .none)] => true
  | .dict _ => false
  | .tuple ds => lfs ds
  | _ => true
def lfs : List Dat → Bool
  | [] => true
  | d :: ds => lf d && lfs ds
end
theorem allP_k {S : Stc} {i : Nat} {k : Kd} (h : (allP S).ks[i]? = some k) : k = .p ∧ ∃ k', S.ks[i]? = some k' := by
  have h : (S.ks.map fun _ => Kd.p)[i]? = some k := h
  rw [List.getElem?_map] at h
  obtain ⟨k', e1, e2⟩ := Option.map_eq_some_iff.mp h
  exact ⟨e2.symm, k', e1⟩
open Classical in
noncomputable def borF (L : LC) (σ : L2.St) (ρ : Env) (H F : Hp) : Hp := fun a => if ∃ i, LiveAt L σ ρ i a then H a else F a
open Classical in
noncomputable def unF (L : LC) (σ : L2.St) (ρ : Env) (F : Hp) : Hp := fun a => if ∃ i, LiveAt L σ ρ i a then none else F a
def LC.bor (L : LC) (H F : Hp) : LC := { S := allP L.S, H0 := H, F0 := F, io := none }
section
variable {L : LC} {σ : L2.St} {H H2 F F2 : Hp} {ρ ρ' : Env}
theorem borF_live {a : Addr} (h : ∃ i, LiveAt L σ ρ i a) : borF L σ ρ H F a = H a := by unfold borF; rw [if_pos h]
theorem borF_not {a : Addr} (h : ¬ ∃ i, LiveAt L σ ρ i a) : borF L σ ρ H F a = F a := by unfold borF; rw [if_neg h]
theorem unF_live {a : Addr} (h : ∃ i, LiveAt L σ ρ i a) : unF L σ ρ F a = none := by unfold unF; rw [if_pos h]
theorem unF_not {a : Addr} (h : ¬ ∃ i, LiveAt L σ ρ i a) : unF L σ ρ F a = F a := by unfold unF; rw [if_neg h]
theorem Rel.sameBor (r : Rel L σ H F ρ) : Same F (borF L σ ρ H F) := fun a o e => by
  by_cases c : ∃ i, LiveAt L σ ρ i a
  · obtain ⟨i, c⟩ := c
    obtain ⟨ds, _, xs, _, n, _⟩ := r.live c
    rw [n] at e; cases e
  · rw [borF_not c]; exact e
theorem Rel.bor (r : Rel L σ H F ρ) : Rel (L.bor H (borF L σ ρ H F)) σ H (borF L σ ρ H F) ρ := by
  have sF := r.sameBor
  have lv : ∀ {i : Nat} {a : Addr} {ds : List Dat}, LiveAt L σ ρ i a → OwL L H F a ds → Rp L.S.K L.S.G (borF L σ ρ H F) (.ref a) (.list ds) := fun {i a ds} h ⟨xs, e, n, q⟩ =>
    .lst (by rw [borF_live ⟨i, h⟩]; exact e) (q.mono sF)
  refine ⟨fun a o e => ?_, fun a o e _ => e, Same.refl _, fun a h _ => h, r.len, fun i d hk hd => ?_, fun i d hk hd => ?_, fun i a e => (nomatch e), fun i hk => ?_, fun i j a h1 h2 => ?_⟩
  · by_cases c : ∃ i, LiveAt L σ ρ i a
    · rw [borF_live c] at e; exact e
    · rw [borF_not c] at e; exact r.sub _ _ e
  · obtain ⟨_, k', hk'⟩ := allP_k hk
    cases k' with
    | p =>
      obtain ⟨v, e, q⟩ := r.pl i d hk' hd
      exact ⟨v, e, q.mono sF⟩
    | m =>
      obtain ⟨v, e, q⟩ := r.mu i d hk' hd
      refine ⟨v, e, ?_⟩
      rcases q with ⟨ds, a, e1, e2, ow, _⟩ | ⟨_, q⟩
      · subst e1; subst e2
        exact lv ⟨.inl hk', ⟨ds, hd⟩, e⟩ ow
      · exact q.mono sF
    | io =>
      obtain ⟨a, e⟩ := r.ioOnly i hk'
      obtain ⟨_, _, _, e2, ds, e3, ow⟩ := r.io i a e
      rw [hd] at e3; cases e3
      exact ⟨_, e2, lv ⟨.inr hk', ⟨ds, hd⟩, e2⟩ ow⟩
  · have := (allP_k hk).1; cases this
  · have := (allP_k hk).1; cases this
  · obtain ⟨hk, _⟩ := h1
    rcases hk with hk | hk
    · have := (allP_k hk).1; cases this
    · have := (allP_k hk).1; cases this
theorem Rel.unbor (r : Rel L σ H F ρ) (r' : Rel (L.bor H (borF L σ ρ H F)) σ H2 F2 ρ') : Rel L σ H2 (unF L σ ρ F2) ρ ∧ Same F (unF L σ ρ F2) := by
  have sF : Same F (unF L σ ρ F2) := fun a o e => by
    have c : ¬ ∃ i, LiveAt L σ ρ i a := fun ⟨i, c⟩ => by
      obtain ⟨ds, _, xs, _, n, _⟩ := r.live c
      rw [n] at e; cases e
    rw [unF_not c]
    refine r'.fold a o ?_
    show borF L σ ρ H F a = some o
    rw [borF_not c]; exact e
  refine ⟨r.grow (fun a o e => ?_) (fun a o e => r'.old a o e (fun i b z => nomatch z)) sF fun a h1 h2 => ?_, sF⟩
  · by_cases c : ∃ i, LiveAt L σ ρ i a
    · rw [unF_live c] at e; cases e
    · rw [unF_not c] at e; exact r'.sub _ _ e
  · by_cases c : ∃ i, LiveAt L σ ρ i a
    · rw [unF_live c] at h1; exact absurd rfl h1
    · rw [unF_not c] at h1
      have h3 := r'.fnew a h1 h2
      have h3 : borF L σ ρ H F a ≠ none := h3
      rw [borF_not c] at h3
      exact h3
/-- all but lists stay frozen -/
theorem Rel.unKeep (r : Rel L σ H F ρ) (r' : Rel (L.bor H (borF L σ ρ H F)) σ H2 F2 ρ') {a : Addr} {o : HO} (e : F2 a = some o) (n : ∀ xs, o ≠ .lst xs) : unF L σ ρ F2 a = some o := by
  have c : ¬ ∃ i, LiveAt L σ ρ i a := fun ⟨i, c⟩ => by
    obtain ⟨ds, _, xs, e1, _, _⟩ := r.live c
    have : F2 a = some (.lst xs) := r'.fold a _ (by show borF L σ ρ H F a = _; rw [borF_live ⟨i, c⟩]; exact e1)
    rw [e] at this; cases this
    exact n xs rfl
  rw [unF_not c]; exact e
end
section
variable {K : PySem.W.Frag} {G : Str → Option Addr} {F F' : Hp}
theorem sqt_keep (h : ∀ a o, F a = some o → (∀ xs, o ≠ .lst xs) → F' a = some o) {a : Addr} {xs : List V} (q : SqT K F a xs) : SqT K F' a xs := by
  rcases q with (q | ⟨o, q⟩) | q
  · exact .inl (.inl (h _ _ q fun _ z => nomatch z))
  · exact .inl (.inr ⟨o, h _ _ q fun _ z => nomatch z⟩)
  · exact .inr q
mutual
theorem Rp.lf (h : ∀ a o, F a = some o → (∀ xs, o ≠ .lst xs) → F' a = some o) : ∀ (d : Dat) {v : V}, Rp K G F v d → lf d = true → Rp K G F' v d
  | .none, _, q, _ => by cases q; exact .non
  | .bool b, _, q, _ => by cases q; exact .bl b
  | .int i, _, q, _ => by cases q; exact .int i
  | .str s, _, q, _ => by cases q; exact .str s
  | .list ds, _, q, e => by cases e
  | .tuple ds, _, q, e => by
    cases q with
    | tup a b => exact .tup (sqt_keep h a) (RpA.lfs h ds b (by simpa [PV.lf] using e))
  | .dict ds, _, q, e => by
    cases q with
    | fn a => exact .fn a
    | scr a b => cases e
theorem RpA.lfs (h : ∀ a o, F a = some o → (∀ xs, o ≠ .lst xs) → F' a = some o) : ∀ (ds : List Dat) {vs : List V}, RpA K G F vs ds → lfs ds = true → RpA K G F' vs ds
  | [], _, q, _ => by cases q; exact .nil
  | d :: ds, _, q, e => by
    cases q with
    | cons a b =>
      have e : (PV.lf d && PV.lfs ds) = true := by simpa [PV.lfs] using e
      rw [Bool.and_eq_true] at e
      exact .cons (Rp.lf h d a e.1) (RpA.lfs h ds b e.2)
end
end
def cBor (g : M Dat) : M Dat := fun ρ => match g ρ with
  | .ok d _ => if lf d then .ok d ρ else .stuck
  | .exc x _ => .exc x ρ
  | .stuck => .stuck
def lfo : Dat → Bool
  | .list ds => lfs ds
  | d => lf d
def cBorO (g : M Dat) : M Dat := fun ρ => match g ρ with
  | .ok d _ => if lfo d then .ok d ρ else .stuck
  | .exc x _ => .exc x ρ
  | .stuck => .stuck
def cBorT (g : M Bool) : M Bool := fun ρ => match g ρ with
  | .ok d _ => .ok d ρ
  | .exc x _ => .exc x ρ
  | .stuck => .stuck
section
variable {X : Cx} {S : Stc} {W : WX} {e : Expr} {g : M Dat} {t : M Bool}
theorem ee_bor (h : EE X (allP S) W e g) : EE X S W e (cBor g) := fun L hL => by
  subst hL
  refine PE.imp (PE.ex (t := fun L' => tE L' W g) h) fun σ H Q ⟨F, ρ, r, q⟩ => ⟨L.bor H (borF L σ ρ H F), rfl, borF L σ ρ H F, ρ, r.bor, ?_⟩
  unfold cBor at q
  cases eg : g ρ with
  | stuck => rw [eg] at q; exact q
  | exc x ρ1 =>
    rw [eg] at q
    intro cls dd H' F' r' s ex
    obtain ⟨u, su⟩ := r.unbor r'
    exact q cls dd H' _ u su ex
  | ok d ρ1 =>
    rw [eg] at q
    dsimp only at q
    by_cases hl : lf d = true
    · rw [if_pos hl] at q
      intro v H' F' r' s p
      obtain ⟨u, su⟩ := r.unbor r'
      exact q v H' _ u su (Rp.lf (fun a o e n => r.unKeep r' e n) d p hl)
    · rw [if_neg hl] at q
      exact absurd q (by intro z; exact z)
theorem eo_bor (h : EO X (allP S) W e g) : EO X S W e (cBorO g) := fun L hL => by
  subst hL
  refine PE.imp (PE.ex (t := fun L' => tO L' W g) h) fun σ H Q ⟨F, ρ, r, q⟩ => ⟨L.bor H (borF L σ ρ H F), rfl, borF L σ ρ H F, ρ, r.bor, ?_⟩
  unfold cBorO at q
  cases eg : g ρ with
  | stuck => rw [eg] at q; exact q
  | exc x ρ1 =>
    rw [eg] at q
    intro cls dd H' F' r' s ex
    obtain ⟨u, su⟩ := r.unbor r'
    exact q cls dd H' _ u su ex
  | ok d ρ1 =>
    rw [eg] at q
    dsimp only at q
    by_cases hl : lfo d = true
    · rw [if_pos hl] at q
      intro v H' F' r' s p
      obtain ⟨u, su⟩ := r.unbor r'
      refine q v H' _ u su ?_
      have keep : ∀ a o, F' a = some o → (∀ xs, o ≠ .lst xs) → unF L σ ρ F' a = some o := fun a o e n => r.unKeep r' e n
      rcases p with ⟨ds, a, e1, e2, ⟨xs, x1, x2, x3⟩, h0, nl⟩ | ⟨n, p⟩
      · subst e1; subst e2
        have h0 : H a = none := h0
        refine .inl ⟨ds, a, rfl, rfl, ⟨xs, x1, ?_, RpA.lfs keep ds x3 hl⟩, r.free0 h0, fun i lv => r.live_ne lv h0 rfl⟩
        by_cases c : ∃ i, LiveAt L σ ρ i a
        · exact unF_live c
        · rw [unF_not c]; exact x2
      · refine .inr ⟨n, Rp.lf keep d p ?_⟩
        cases d with
        | list ds => exact absurd rfl (n ds)
        | _ => exact hl
    · rw [if_neg hl] at q
      exact absurd q (by intro z; exact z)
theorem et_bor (h : ET X (allP S) W e t) : ET X S W e (cBorT t) := fun L hL => by
  subst hL
  have hx : PT X e (fun σ H Q => ∃ L', L'.S = allP L.S ∧ tT L' W t σ H Q) := ⟨fun pins s σ H Q I ⟨L', hL', q⟩ => (h L' hL').run pins s σ H Q I q⟩
  refine PT.imp hx fun σ H Q ⟨F, ρ, r, q⟩ => ⟨L.bor H (borF L σ ρ H F), rfl, borF L σ ρ H F, ρ, r.bor, ?_⟩
  unfold cBorT at q
  cases eg : t ρ with
  | stuck => rw [eg] at q; exact q
  | exc x ρ1 =>
    rw [eg] at q
    intro cls dd H' F' r' s ex
    obtain ⟨u, su⟩ := r.unbor r'
    exact q cls dd H' _ u su ex
  | ok d ρ1 =>
    rw [eg] at q
    intro v H' F' r' s p
    obtain ⟨u, su⟩ := r.unbor r'
    exact q v H' _ u su p
end
end L2.PV
set_option Elab.async false
set_option linter.all false
set_option maxRecDepth 100000
set_option maxHeartbeats 2000000
namespace L2.PV
open PySem PySem.Spec PyProof.Rows
/-! ### names that hold a list of their own -/
section
variable {L : LC} {σ σ' : L2.St} {H H' F F' : Hp} {ρ ρ' : Env} {i : Nat} {v : V} {d : Dat}
theorem kd_ne2 {S : Stc} {i j : Nat} {k k' : Kd} (h : S.ks[i]? = some k) (e : S.ks[j]? = some k') (n : k' ≠ k) : i ≠ j := fun z => by subst z; rw [h] at e; cases e; exact n rfl
theorem Rel.setM (r : Rel L σ H F ρ) (hk : L.S.ks[i]? = some Kd.m) (h : vO L σ ρ H F v d) : Rel L (σ.set i (some v)) H F (ρ.set i (some d)) := by
  have lvn : ∀ {j : Nat} {a : Addr}, i ≠ j → LiveAt L (σ.set i (some v)) (ρ.set i (some d)) j a → LiveAt L σ ρ j a := fun {j a} hne ⟨h1, ⟨ds, h2⟩, h3⟩ => by
    rw [List.getElem?_set_ne hne] at h2 h3
    exact ⟨h1, ⟨ds, h2⟩, h3⟩
  have lve : ∀ {a : Addr}, LiveAt L (σ.set i (some v)) (ρ.set i (some d)) i a → ∀ j, ¬ LiveAt L σ ρ j a := fun {a} ⟨h1, ⟨ds, h2⟩, h3⟩ => by
    have l2 : i < ρ.length := by
      have := (List.getElem?_eq_some_iff.mp h2).1
      rwa [List.length_set] at this
    rw [List.getElem?_set_self l2] at h2
    rw [List.getElem?_set_self (by rw [← r.len]; exact l2)] at h3
    cases h2; cases h3
    rcases h with ⟨ds', a', e1, e2, _, _, n⟩ | ⟨n, _⟩
    · cases e2; exact n
    · exact absurd rfl (n ds)
  refine ⟨r.sub, r.old, r.fold, r.fnew, by rw [List.length_set, List.length_set]; exact r.len, fun j e hj he => ?_, fun j e hj he => ?_, fun j a e => ?_, r.ioOnly, fun j k a h1 h2 => ?_⟩
  · have z := kd_ne2 hk hj (by decide)
    rw [List.getElem?_set_ne z] at he ⊢
    exact r.pl j e hj he
  · by_cases z : i = j
    · subst z
      have hlt : i < ρ.length := by
        have := (List.getElem?_eq_some_iff.mp he).1
        rwa [List.length_set] at this
      rw [List.getElem?_set_self hlt] at he
      cases he
      refine ⟨v, by rw [List.getElem?_set_self (by rw [← r.len]; exact hlt)], ?_⟩
      rcases h with ⟨ds, a, e1, e2, ow, h0, n⟩ | ⟨n, q⟩
      · exact .inl ⟨ds, a, e1, e2, ow, h0⟩
      · exact .inr ⟨n, q⟩
    · rw [List.getElem?_set_ne z] at he ⊢
      exact r.mu j e hj he
  · obtain ⟨k, h0, f0, e1, ds, e2, ow⟩ := r.io j a e
    have z := kd_ne2 hk k (by decide)
    rw [List.getElem?_set_ne z, List.getElem?_set_ne z]
    exact ⟨k, h0, f0, e1, ds, e2, ow⟩
  · by_cases z1 : i = j
    · subst z1
      by_cases z2 : i = k
      · exact z2
      · exact absurd (lvn z2 h2) (lve h1 k)
    · by_cases z2 : i = k
      · subst z2
        exact absurd (lvn z1 h1) (lve h2 j)
      · exact r.dis j k a (lvn z1 h1) (lvn z2 h2)
/-- nothing is known of a name any more -/
theorem Rel.forget (r : Rel L σ H F ρ) (hk : L.S.ks[i]? ≠ some Kd.io) : Rel L σ H F (ρ.set i none) := by
  have lv : ∀ {j : Nat} {a : Addr}, LiveAt L σ (ρ.set i none) j a → LiveAt L σ ρ j a := fun {j a} ⟨h1, ⟨ds, h2⟩, h3⟩ => by
    by_cases z : i = j
    · subst z
      have hlt : i < ρ.length := by
        have := (List.getElem?_eq_some_iff.mp h2).1
        rwa [List.length_set] at this
      rw [List.getElem?_set_self hlt] at h2
      cases h2
    · rw [List.getElem?_set_ne z] at h2
      exact ⟨h1, ⟨ds, h2⟩, h3⟩
  have ge : ∀ {j : Nat} {d : Dat}, (ρ.set i none)[j]? = some (some d) → ρ[j]? = some (some d) := fun {j d} e => by
    by_cases z : i = j
    · subst z
      have hlt : i < ρ.length := by
        have := (List.getElem?_eq_some_iff.mp e).1
        rwa [List.length_set] at this
      rw [List.getElem?_set_self hlt] at e
      cases e
    · rw [List.getElem?_set_ne z] at e; exact e
  refine ⟨r.sub, r.old, r.fold, r.fnew, by rw [List.length_set]; exact r.len, fun j e hj he => r.pl j e hj (ge he), fun j e hj he => r.mu j e hj (ge he), fun j a e => ?_, r.ioOnly, fun j k a h1 h2 => r.dis j k a (lv h1) (lv h2)⟩
  obtain ⟨k, h0, f0, e1, ds, e2, ow⟩ := r.io j a e
  have z : i ≠ j := fun z => by subst z; exact hk k
  rw [List.getElem?_set_ne z]
  exact ⟨k, h0, f0, e1, ds, e2, ow⟩
/-- the list of a name is changed -/
theorem Rel.updLive (r : Rel L σ H F ρ) {a : Addr} (lv : LiveAt L σ ρ i a) {xs : List V} {ds : List Dat} (q : RpA L.S.K L.S.G F xs ds) : Rel L σ (upd H a (.lst xs)) F (ρ.set i (some (.list ds))) := by
  obtain ⟨ds0, g0, xs0, x1, x2, x3⟩ := r.live lv
  have hlt : i < ρ.length := (List.getElem?_eq_some_iff.mp g0).1
  have gi : (ρ.set i (some (.list ds)))[i]? = some (some (.list ds)) := List.getElem?_set_self hlt
  have lvo : ∀ {j : Nat} {b : Addr}, LiveAt L σ (ρ.set i (some (.list ds))) j b → LiveAt L σ ρ j b := fun {j b} ⟨h1, ⟨es, h2⟩, h3⟩ => by
    by_cases z : i = j
    · subst z; exact ⟨h1, ⟨ds0, g0⟩, h3⟩
    · rw [List.getElem?_set_ne z] at h2; exact ⟨h1, ⟨es, h2⟩, h3⟩
  have nF : ∀ {b : Addr} {o : HO}, F b = some o → b ≠ a := fun {b o} e z => by subst z; rw [x2] at e; cases e
  have owi : OwL L (upd H a (.lst xs)) F a ds := ⟨xs, upd_same, x2, q⟩
  have owo : ∀ {j : Nat} {b : Addr} {es : List Dat}, i ≠ j → LiveAt L σ ρ j b → OwL L H F b es → OwL L (upd H a (.lst xs)) F b es := fun {j b es} hne lb ⟨ys, y1, y2, y3⟩ => by
    have : b ≠ a := fun z => hne (r.dis i j a lv (z ▸ lb))
    exact ⟨ys, by rw [upd_ne this]; exact y1, y2, y3⟩
  refine ⟨fun b o e => by rw [upd_ne (nF e)]; exact r.sub _ _ e, fun b o e n => ?_, r.fold, r.fnew, by rw [List.length_set]; exact r.len, fun j e hj he => ?_, fun j e hj he => ?_, fun j b e => ?_, r.ioOnly, fun j k b h1 h2 => r.dis j k b (lvo h1) (lvo h2)⟩
  · have : b ≠ a := fun z => by
      subst z
      obtain ⟨hk, ⟨es, he⟩, hs⟩ := lv
      rcases hk with hk | hk
      · obtain ⟨v, e1, q⟩ := r.mu i _ hk he
        rw [hs] at e1; cases e1
        rcases q with ⟨ds', a, e2, e3, ow, z⟩ | ⟨n, _⟩
        · cases e3; rw [e] at z; cases z
        · exact n es rfl
      · obtain ⟨c, e1⟩ := r.ioOnly i hk
        obtain ⟨_, _, _, e2, _⟩ := r.io i c e1
        rw [hs] at e2; cases e2
        exact n i b e1 rfl
    rw [upd_ne this]; exact r.old b o e n
  · have z : i ≠ j := fun z => by
      subst z
      rcases lv.1 with k | k <;> · rw [hj] at k; cases k
    rw [List.getElem?_set_ne z] at he
    exact r.pl j e hj he
  · by_cases z : i = j
    · subst z
      rw [gi] at he
      cases he
      obtain ⟨v, e1, q⟩ := r.mu i _ hj g0
      rw [lv.2.2] at e1; cases e1
      refine ⟨_, lv.2.2, ?_⟩
      rcases q with ⟨ds', a', e2, e3, ow, z⟩ | ⟨n, _⟩
      · cases e3; exact .inl ⟨ds, a, rfl, rfl, owi, z⟩
      · exact absurd rfl (n ds0)
    · rw [List.getElem?_set_ne z] at he
      obtain ⟨v, e1, q⟩ := r.mu j _ hj he
      refine ⟨v, e1, ?_⟩
      rcases q with ⟨ds', a', e2, e3, ow, z'⟩ | q
      · subst e2; subst e3
        exact .inl ⟨ds', a', rfl, rfl, owo z ⟨.inl hj, ⟨ds', he⟩, e1⟩ ow, z'⟩
      · exact .inr q
  · obtain ⟨k, h0, f0, e1, es, e2, ow⟩ := r.io j b e
    by_cases z : i = j
    · subst z
      have hb := lv.2.2
      rw [e1] at hb; cases hb
      exact ⟨k, h0, f0, e1, ds, gi, owi⟩
    · rw [List.getElem?_set_ne z]
      exact ⟨k, h0, f0, e1, es, e2, owo z ⟨.inr k, ⟨es, e2⟩, e1⟩ ow⟩
end

/-! ### a name's own list given away -/
def cMove (i : Nat) : M Dat := fun ρ => match ρ[i]? with
  | some (some d) => .ok d (ρ.set i none)
  | _ => .stuck
section
variable {X : Cx} {S : Stc} {W : WX} {own : Bool} {e : Expr} {g : M Dat} {pos spos : Pos} {x : Str} {i : Nat}
theorem eo_move (hN : X.N[i]? = some x) (hv : Vis X.env.scope x) (hk : S.ks[i]? = some Kd.m) (hd : (x == ("__debug__" : Str)) = false) (hcd : (x == ("__classdict__" : Str)) = false) : EO X S W (.Name x pos) (cMove i) := fun L hL => by
  subst hL
  refine PE.imp (pe_var hN hv hd hcd) fun σ H Q ⟨F, ρ, r, q⟩ => ?_
  unfold cMove at q
  split at q
  · rename_i d ed
    obtain ⟨v, e1, e2⟩ := r.mu i d hk ed
    have hlt : i < ρ.length := (List.getElem?_eq_some_iff.mp ed).1
    have rf := r.forget (i := i) (by rw [hk]; exact fun z => nomatch z)
    refine ⟨v, e1, q v H F rf (Same.refl _) ?_⟩
    rcases e2 with ⟨ds, a, rfl, rfl, ow, h0⟩ | ⟨n, p⟩
    · refine .inl ⟨ds, a, rfl, rfl, ow, h0, fun j lv => ?_⟩
      have : LiveAt L σ ρ j a := by
        obtain ⟨h1, ⟨es, h2⟩, h3⟩ := lv
        by_cases z : i = j
        · subst z; rw [List.getElem?_set_self hlt] at h2; cases h2
        · rw [List.getElem?_set_ne z] at h2; exact ⟨h1, ⟨es, h2⟩, h3⟩
      have z := r.dis i j a ⟨.inl hk, ⟨ds, ed⟩, e1⟩ this
      subst z
      obtain ⟨h1, ⟨es, h2⟩, h3⟩ := lv
      rw [List.getElem?_set_self hlt] at h2; cases h2
    · exact .inr ⟨n, p⟩
  · exact absurd q (by intro z; exact z)
/-- name = a new list -/
theorem tAsgM_of {L : LC} (hk : L.S.ks[i]? = some Kd.m) : ∀ D σ H, tS L W own (sAsg g (aName i)) D σ H → tAsg (tO L W g) (gName i) D σ H := fun D σ H ⟨F, ρ, r, q⟩ => ⟨F, ρ, r, (PostS.bind (VP := vO L) q).imp fun v H1 ⟨F1, ρ1, d, r1, s1, p1, q⟩ => q _ H1 F1 (r1.setM hk p1) (Same.refl _)⟩
theorem es_asgM {py : Pos} (hN : X.N.Nodup) (hi : X.N[i]? = some x) (hx : Loc X.env.scope x) (hf : X.fn x = true ∨ X.env.scope.names.lookup x = some .local) (hk : S.ks[i]? = some Kd.m) (he : EO X S W e g) (hs : swapsWith e (some (.Name x py)) spos.line X.env = pure false) : ES X S W own (.Assign [.Name x py] e spos) (sAsg g (aName i)) := fun L hL => by
  subst hL
  exact PS.imp (ps_set hN hi hx (he L rfl) hs hf) (tAsgM_of hk)
section
variable {tg it elt : Expr} {ifs : List Expr} {scope : Scope} {own : List (Str × Nat)} {gi : M (List Dat)} {f : Tg} {t : M Bool} {ee : M Dat} {sl : List Nat}
theorem es_setLcM {own' : Bool} {y : Str} {py spos : Pos} (hc : X.calm = true) (hN : X.N.Nodup) (hy : X.N[i]? = some y) (hyl : X.env.scope.names.lookup y = some .local) (hk : S.ks[i]? = some Kd.m)
    (hsw : swapsWith (.ListComp elt [⟨tg, it, ifs, 0⟩] scope pos) (some (.Name y py)) spos.line X.env = pure true) (hi : EI X S W tg it gi) (ok : BlkOk X.N X.env.scope scope own) (hvs : ∀ v ∈ own.map (·.2), S.ks[v]? = some Kd.p) (hsl : ∀ i ∈ sl, i ∈ own.map (·.2))
    (hg : ∀ (s : Shared) (H : Hp) (C : Addr) (cl : List (Str × Addr)) (fp : List Addr), EG (X.blk s H scope (compEnvC scope cl C X.env) fp) S tg sl f)
    (ht : ∀ (s : Shared) (H : Hp) (C : Addr) (cl : List (Str × Addr)) (fp : List Addr), ETs (X.blk s H scope (compEnvC scope cl C X.env) fp) S W0 ifs t)
    (he : ∀ (s : Shared) (H : Hp) (C : Addr) (cl : List (Str × Addr)) (fp : List Addr), EE (X.blk s H scope (compEnvC scope cl C X.env) fp) S W0 elt ee)
    (hs : ∀ x, foldedSetIterable it X.env x = pure x) : ES X S W own' (.Assign [.Name y py] (.ListComp elt [⟨tg, it, ifs, 0⟩] scope pos) spos) (sAsg (cLc gi f t ee (own.map (·.2))) (aName i)) := fun L hL => by
  subst hL
  refine PS.imp (ps_setLc hc hN hy hyl hsw (hi L rfl) ok (fun s H C cl fp => PG.ex (hg s H C cl fp)) (fun s H C cl fp => PTs.ex (ht s H C cl fp)) (fun s H C cl fp => PE.ex (he s H C cl fp)) hs) fun D σ H ⟨F, ρ, r, q⟩ => ?_
  have q2 : tO L W (cLc gi f t ee (own.map (·.2))) σ H fun x H1 => gName i x σ H1 D.nx := ⟨F, ρ, r, (PostS.bind (VP := vO L) q).imp fun v H1 ⟨F1, ρ1, d, r1, s1, p1, q⟩ => q (σ.set i (some v)) H1 F1 (r1.setM hk p1) (Same.refl _)⟩
  exact tLc_of hvs hsl _ _ _ (fun L' hL' v σ H Q q => ⟨L', hL', q⟩) (fun L' hL' σ H Q q => ⟨L', hL', q⟩) (fun L' hL' σ H Q q => ⟨L', hL', q⟩) σ H _ q2
end
end

/-! ### lists of values, some of them new lists -/
inductive AM (σ : L2.St) (ρ : Env) (H F : Hp) : LC → List Bool → List V → List Dat → Prop
  | nil {L : LC} : AM σ ρ H F L [] [] []
  | p {L : LC} {fl : List Bool} {v : V} {vs : List V} {d : Dat} {ds : List Dat} : Rp L.S.K L.S.G F v d → AM σ ρ H F L fl vs ds → AM σ ρ H F L (false :: fl) (v :: vs) (d :: ds)
  | mN {L : LC} {fl : List Bool} {v : V} {vs : List V} {d : Dat} {ds : List Dat} : (∀ es, d ≠ .list es) → Rp L.S.K L.S.G F v d → AM σ ρ H F L fl vs ds → AM σ ρ H F L (true :: fl) (v :: vs) (d :: ds)
  | mO {L : LC} {fl : List Bool} {a : Addr} {xs : List V} {vs : List V} {es : List Dat} {ds : List Dat} : H a = some (.lst xs) → F a = none → RpA L.S.K L.S.G F xs es → L.H0 a = none → (∀ i, ¬ LiveAt L σ ρ i a) → AM σ ρ H F (L.hold a xs) fl vs ds → AM σ ρ H F L (true :: fl) (.ref a :: vs) (.list es :: ds)
def setAll {α : Type} (ρ : List (Option α)) : List Nat → List α → List (Option α)
  | i :: is, d :: ds => setAll (ρ.set i (some d)) is ds
  | _, _ => ρ
def kdOf : Bool → Kd
  | true => .m
  | false => .p
def EAm (X : Cx) (S : Stc) (W : WX) (fl : List Bool) (es : List Expr) (g : M (List Dat)) : Prop := ∀ L, L.S = S → PA X es (rd L W (fun σ ρ H F vs ds => AM σ ρ H F L fl vs ds) g)
theorem PA.ex {X : Cx} {e : List Expr} {S : Stc} {t : LC → TA} (h : ∀ L, L.S = S → PA X e (t L)) : PA X e (fun σ H Q => ∃ L, L.S = S ∧ t L σ H Q) := ⟨fun pos pins s σ H Q I ⟨L, hL, q⟩ => (h L hL).run pos pins s σ H Q I q⟩
section
variable {σ σ' : L2.St} {H H' F F' : Hp} {ρ ρ' : Env}
theorem AM.move {fl : List Bool} {vs : List V} {ds : List Dat} {L1 : LC} (a : AM σ ρ H F L1 fl vs ds) : ∀ {L2 : LC}, L2.S = L1.S → (∀ b, L1.H0 b = none → (∀ i, ¬ LiveAt L1 σ ρ i b) → L2.H0 b = none ∧ ∀ i, ¬ LiveAt L2 σ' ρ' i b) → AM σ' ρ' H F L2 fl vs ds := by
  induction a with
  | nil => intro L2 _ _; exact .nil
  | p h a ih => intro L2 hS k; exact .p (by rw [hS]; exact h) (ih hS k)
  | mN n h a ih => intro L2 hS k; exact .mN n (by rw [hS]; exact h) (ih hS k)
  | mO e1 e2 q h0 nl aa ih =>
    intro L2 hS k
    obtain ⟨k1, k2⟩ := k _ h0 nl
    refine .mO e1 e2 (by rw [hS]; exact q) k1 k2 (ih hS fun b hb nb => ?_)
    rename_i L fl a xs vs es ds
    have hb : upd L.H0 a (.lst xs) b = none := hb
    have hne : b ≠ a := fun z => by subst z; rw [upd_same] at hb; cases hb
    rw [upd_ne hne] at hb
    obtain ⟨k3, k4⟩ := k b hb nb
    exact ⟨by show upd L2.H0 a (.lst xs) b = none; rw [upd_ne hne]; exact k3, k4⟩
theorem AM.length {L : LC} {fl : List Bool} {vs : List V} {ds : List Dat} (a : AM σ ρ H F L fl vs ds) : vs.length = ds.length ∧ fl.length = ds.length := by
  induction a with
  | nil => exact ⟨rfl, rfl⟩
  | p _ _ ih => exact ⟨congrArg (· + 1) ih.1, congrArg (· + 1) ih.2⟩
  | mN _ _ _ ih => exact ⟨congrArg (· + 1) ih.1, congrArg (· + 1) ih.2⟩
  | mO _ _ _ _ _ _ ih => exact ⟨congrArg (· + 1) ih.1, congrArg (· + 1) ih.2⟩
/-- the first is stored -/
theorem AM.store {L : LC} {b : Bool} {fl : List Bool} {v : V} {vs : List V} {d : Dat} {ds : List Dat} {i : Nat} (r : Rel L σ H F ρ) (hk : L.S.ks[i]? = some (kdOf b)) (a : AM σ ρ H F L (b :: fl) (v :: vs) (d :: ds)) :
    Rel L (σ.set i (some v)) H F (ρ.set i (some d)) ∧ AM (σ.set i (some v)) (ρ.set i (some d)) H F L fl vs ds := by
  have lvp : ∀ {x : V} {y : Dat} {b' : Addr}, (L.S.ks[i]? = some Kd.p ∨ (∀ es, y ≠ .list es)) → (∀ j, ¬ LiveAt L σ ρ j b') → ∀ j, ¬ LiveAt L (σ.set i (some x)) (ρ.set i (some y)) j b' := fun {x y b'} ho nl j ⟨h1, ⟨es, h2⟩, h3⟩ => by
    by_cases z : i = j
    · subst z
      rcases ho with ho | ho
      · rcases h1 with h1 | h1 <;> · rw [ho] at h1; cases h1
      · have hlt : i < ρ.length := by
          have := (List.getElem?_eq_some_iff.mp h2).1
          rwa [List.length_set] at this
        rw [List.getElem?_set_self hlt] at h2
        cases h2
        exact ho es rfl
    · rw [List.getElem?_set_ne z] at h2 h3
      exact nl j ⟨h1, ⟨es, h2⟩, h3⟩
  cases a with
  | p h a => exact ⟨r.setP hk h, a.move rfl fun b' h0 nl => ⟨h0, lvp (.inl hk) nl⟩⟩
  | mN n h a => exact ⟨r.setM hk (.inr ⟨n, h⟩), a.move rfl fun b' h0 nl => ⟨h0, lvp (.inr n) nl⟩⟩
  | mO e1 e2 q h0 nl a =>
    rename_i a0 xs es
    refine ⟨r.setM hk (.inl ⟨_, _, rfl, rfl, ⟨xs, e1, e2, q⟩, h0, nl⟩), a.move rfl fun b' hb nb => ?_⟩
    have hb : upd L.H0 a0 (.lst xs) b' = none := hb
    have hne : b' ≠ a0 := fun z => by subst z; rw [upd_same] at hb; cases hb
    rw [upd_ne hne] at hb
    refine ⟨hb, fun j ⟨h1, ⟨es', h2⟩, h3⟩ => ?_⟩
    by_cases z : i = j
    · subst z
      have hlt : i < σ.length := by
        have := (List.getElem?_eq_some_iff.mp h3).1
        rwa [List.length_set] at this
      rw [List.getElem?_set_self hlt] at h3
      cases h3
      exact hne rfl
    · rw [List.getElem?_set_ne z] at h2 h3
      exact nb j ⟨h1, ⟨es', h2⟩, h3⟩
theorem AM.storeAll {L : LC} : ∀ {fl : List Bool} {vs : List V} {ds : List Dat} {is : List Nat} {σ : L2.St} {ρ : Env}, Rel L σ H F ρ → is.length = fl.length → (∀ p ∈ is.zip fl, L.S.ks[p.1]? = some (kdOf p.2)) → AM σ ρ H F L fl vs ds → Rel L (setAll σ is vs) H F (setAll ρ is ds)
  | [], vs, ds, is, σ, ρ, r, hl, hk, a => by
    cases a
    cases is with
    | nil => exact r
    | cons _ _ => cases hl
  | b :: fl, [], ds, is, σ, ρ, r, hl, hk, a => nomatch a
  | b :: fl, v :: vs, [], is, σ, ρ, r, hl, hk, a => nomatch a
  | b :: fl, v :: vs, d :: ds, [], σ, ρ, r, hl, hk, a => by cases hl
  | b :: fl, v :: vs, d :: ds, i :: is, σ, ρ, r, hl, hk, a => by
    obtain ⟨r1, a1⟩ := AM.store r (hk (i, b) (by rw [List.zip_cons_cons]; exact List.mem_cons_self ..)) a
    have z := AM.storeAll (is := is) r1 (by simpa using hl) (fun p hp => hk p (by rw [List.zip_cons_cons]; exact List.mem_cons_of_mem _ hp)) a1
    exact z
end
section
variable {X : Cx} {S : Stc} {W : WX} {own : Bool} {e : Expr} {es : List Expr} {g : M Dat} {gs : M (List Dat)} {fl : List Bool} {pos spos : Pos} {x : Str} {i : Nat}
theorem eam_nil : EAm X S W [] [] cNil := fun L hL => PA.imp pa_nil fun σ H Q ⟨F, ρ, r, q⟩ => q [] H F r (Same.refl _) .nil
theorem eam_p (ha : EE X S W e g) (hr : EAm X S W fl es gs) (hs : starEach (e :: es) X.env = (false, eval e X.env) :: starEach es X.env) : EAm X S W (false :: fl) (e :: es) (cCons g gs) := fun L hL => by
  subst hL
  refine PA.imp (pa_cons (ha L rfl) (hr L rfl) hs) fun σ H Q q => ?_
  obtain ⟨F, ρ, r0, q⟩ := rd.bind2 (VP1 := vE L) (VP2 := fun σ ρ H F vs ds => AM σ ρ H F L fl vs ds) vE.keep q
  refine ⟨F, ρ, r0, q.imp fun v H1 ⟨F1, ρ1, r1, q⟩ => ⟨F1, ρ1, r1, q.imp fun v2 H2 ⟨F2, ρ2, a, a2, r2, h1, h2, q⟩ => ?_⟩⟩
  exact q _ H2 F2 r2 (Same.refl _) (.p h1 h2)
theorem eam_m (ha : EO X S W e g) (hr : EAm X S W fl es gs) (hs : starEach (e :: es) X.env = (false, eval e X.env) :: starEach es X.env) : EAm X S W (true :: fl) (e :: es) (cCons g gs) := fun L hL => by
  subst hL
  have hr' := PA.ex (t := fun L' => rd L' W (fun σ ρ H F vs ds => AM σ ρ H F L' fl vs ds) gs) hr
  refine PA.imp (pa_cons (ha L rfl) hr' hs) fun σ H Q q => ?_
  obtain ⟨F, ρ, r, q⟩ := rd.bind (VP1 := vO L) q
  refine ⟨F, ρ, r, q.imp fun v H1 ⟨F1, ρ1, d, r1, h1, q⟩ => ?_⟩
  rcases h1 with ⟨ds, a, rfl, rfl, ⟨xs, e1, e2, e3⟩, h0, nl⟩ | ⟨n, p⟩
  · have hh : Held L σ H1 F1 ρ1 a := ⟨h0, e2, nl⟩
    refine ⟨L.hold a xs, rfl, F1, ρ1, r1.hold hh e1, ?_⟩
    unfold M.bind at q
    cases eg : gs ρ1 with
    | stuck => rw [eg] at q; exact q
    | exc x ρ2 =>
      rw [eg] at q
      intro cls dd H' F' r' s ex
      exact q cls dd H' F' (r'.unhold h0 r1.hio) s ex
    | ok ds2 ρ2 =>
      rw [eg] at q
      intro vs H2 F2 r2 s2 a2
      obtain ⟨h2, d2⟩ := Held.after r1 hh s2 r2
      exact q _ H2 F2 (r2.unhold h0 r1.hio) s2 (.mO d2 h2.nF (e3.mono s2) h0 h2.nl a2)
  · refine ⟨L, rfl, F1, ρ1, r1, ?_⟩
    unfold M.bind at q
    cases eg : gs ρ1 with
    | stuck => rw [eg] at q; exact q
    | exc x ρ2 =>
      rw [eg] at q
      exact q
    | ok ds2 ρ2 =>
      rw [eg] at q
      intro vs H2 F2 r2 s2 a2
      exact q _ H2 F2 r2 s2 (.mN n (p.mono s2) a2)
theorem len2 {α : Type} {l : List α} (h : l.length = 2) : ∃ a b, l = [a, b] := by
  match l, h with
  | [a, b], _ => exact ⟨a, b, rfl⟩
theorem len3 {α : Type} {l : List α} (h : l.length = 3) : ∃ a b c, l = [a, b, c] := by
  match l, h with
  | [a, b, c], _ => exact ⟨a, b, c, rfl⟩
/-- a, b = .., .. -/
def sAsgs (gs : M (List Dat)) (is : List Nat) : MS := sBind gs fun ds ρ => if ds.length ≤ lineN then .nx (setAll ρ is ds) else .stuck
theorem es_par2 {j : Nat} {y : Str} {a b : Expr} {b1 b2 : Bool} {px py pt : Pos} {kt k2 pt2} (hc : X.calm = true) (hN : X.N.Nodup) (hi : X.N[i]? = some x) (hj : X.N[j]? = some y) (hij : i ≠ j)
    (hx : X.env.scope.names.lookup x = some .local) (hy : X.env.scope.names.lookup y = some .local) (ha : EAm X S W [b1, b2] [a, b] gs)
    (hw : swappedStores [.Tuple [.Name x px, .Name y py] kt pt] (.Tuple [a, b] k2 pt2) X.env = pure (some [x, y]))
    (hs : swapsWithSole [.Tuple [.Name x px, .Name y py] kt pt] (.Tuple [a, b] k2 pt2) spos.line X.env = pure false) (k1 : S.ks[i]? = some (kdOf b1)) (k2' : S.ks[j]? = some (kdOf b2)) :
    ES X S W own (.Assign [.Tuple [.Name x px, .Name y py] kt pt] (.Tuple [a, b] k2 pt2) spos) (sAsgs gs [i, j]) := fun L hL => by
  subst hL
  refine PS.imp (ps_par hc hN hi hj hij hx hy (ha L rfl) hw hs) fun D σ H ⟨F, ρ, r, q⟩ => ?_
  refine ⟨F, ρ, r, (PostS.bind (VP := fun σ ρ H F vs ds => AM σ ρ H F L [b1, b2] vs ds) q).imp fun vs H1 ⟨F1, ρ1, ds, r1, s1, p1, q⟩ => ?_⟩
  obtain ⟨l1, l2⟩ := p1.length
  split at q
  · obtain ⟨d, e', rfl⟩ := len2 l2.symm
    obtain ⟨v, w, rfl⟩ := len2 l1
    · exact ⟨v, w, rfl, q _ H1 F1 (p1.storeAll (is := [i, j]) r1 rfl (by
        intro p hp
        simp only [List.zip_cons_cons, List.zip_nil_right, List.mem_cons, List.not_mem_nil, or_false] at hp
        rcases hp with rfl | rfl
        · exact k1
        · exact k2')) (Same.refl _)⟩
  · exact absurd q (by intro z; exact z)
theorem es_par3 {j l : Nat} {y z : Str} {a b c : Expr} {b1 b2 b3 : Bool} {px py pz pt : Pos} {kt k2 pt2} (hc : X.calm = true) (hN : X.N.Nodup) (hi : X.N[i]? = some x) (hj : X.N[j]? = some y) (hl : X.N[l]? = some z) (hij : i ≠ j) (hil : i ≠ l) (hjl : j ≠ l)
    (hx : X.env.scope.names.lookup x = some .local) (hy : X.env.scope.names.lookup y = some .local) (hz : X.env.scope.names.lookup z = some .local) (ha : EAm X S W [b1, b2, b3] [a, b, c] gs)
    (hw : swappedStores [.Tuple [.Name x px, .Name y py, .Name z pz] kt pt] (.Tuple [a, b, c] k2 pt2) X.env = pure (some [x, y, z]))
    (hs : swapsWithSole [.Tuple [.Name x px, .Name y py, .Name z pz] kt pt] (.Tuple [a, b, c] k2 pt2) spos.line X.env = pure false) (k1 : S.ks[i]? = some (kdOf b1)) (k2' : S.ks[j]? = some (kdOf b2)) (k3 : S.ks[l]? = some (kdOf b3)) :
    ES X S W own (.Assign [.Tuple [.Name x px, .Name y py, .Name z pz] kt pt] (.Tuple [a, b, c] k2 pt2) spos) (sAsgs gs [i, j, l]) := fun L hL => by
  subst hL
  refine PS.imp (ps_par3 hc hN hi hj hl hij hil hjl hx hy hz (ha L rfl) hw hs) fun D σ H ⟨F, ρ, r, q⟩ => ?_
  refine ⟨F, ρ, r, (PostS.bind (VP := fun σ ρ H F vs ds => AM σ ρ H F L [b1, b2, b3] vs ds) q).imp fun vs H1 ⟨F1, ρ1, ds, r1, s1, p1, q⟩ => ?_⟩
  obtain ⟨l1, l2⟩ := p1.length
  split at q
  · obtain ⟨d, e', f', rfl⟩ := len3 l2.symm
    obtain ⟨v, w, u, rfl⟩ := len3 l1
    · exact ⟨v, w, u, rfl, q _ H1 F1 (p1.storeAll (is := [i, j, l]) r1 rfl (by
        intro p hp
        simp only [List.zip_cons_cons, List.zip_nil_right, List.mem_cons, List.not_mem_nil, or_false] at hp
        rcases hp with rfl | rfl | rfl
        · exact k1
        · exact k2'
        · exact k3)) (Same.refl _)⟩
  · exact absurd q (by intro z; exact z)
/-- plain targets one after another, kinds as told -/
def tGm (L : LC) (fl : List Bool) (is : List Nat) : TGs := fun vs σ H Q => ∃ F ρ ds, Rel L σ H F ρ ∧ AM σ ρ H F L fl vs ds ∧ ∀ σ', Rel L σ' H F (setAll ρ is ds) → Q σ' H
def EGm (X : Cx) (S : Stc) (ts : List Expr) (fl : List Bool) (is : List Nat) : Prop := ∀ L, L.S = S → PGs X ts (tGm L fl is)
theorem egm_nil : EGm X S [] [] [] := fun L hL => PGs.imp pgs_nil fun vs σ H Q ⟨F, ρ, ds, r, a, q⟩ => by
  cases a
  exact ⟨rfl, q σ r⟩
theorem egm_cons {is : List Nat} {b : Bool} {ts : List Expr} (hN : X.N.Nodup) (hi : X.N[i]? = some x) (hx : Loc X.env.scope x) (hf : X.fn x = true ∨ X.env.scope.names.lookup x = some .local) (hk : S.ks[i]? = some (kdOf b)) (h2 : EGm X S ts fl is)
    (hs : (assignEach (.Name x pos :: ts) X.env).map (·.2) = assign (.Name x pos) X.env :: (assignEach ts X.env).map (·.2)) : EGm X S (.Name x pos :: ts) (b :: fl) (i :: is) := fun L hL => by
  subst hL
  refine PGs.imp (pgs_cons (pg_name hN hi hx hf) (h2 L rfl) hs) fun vs σ H Q ⟨F, ρ, ds, r, a, q⟩ => ?_
  match vs, ds, a with
  | v :: vs, d :: ds, a =>
    obtain ⟨r1, a1⟩ := AM.store r hk a
    exact ⟨v, vs, rfl, F, _, ds, r1, a1, fun σ' r' => q σ' r'⟩
theorem es_parT {is : List Nat} {ts : List Expr} {kt k2 : Nat} {pt pt2 : Pos} {n : Nat} (hK : X.K = S.K) (hc : X.calm = true) (ha : EAm X S W fl es gs) (hg : EGm X S ts fl is) (hn : (assignEach ts X.env).length = n) (hfl : fl.length = n) (hst : (assignEach ts X.env).findIdx? (·.1) = none)
    (hs : swapsWithSole [.Tuple ts kt pt] (.Tuple es k2 pt2) spos.line X.env = pure false) (hw : swappedStores [.Tuple ts kt pt] (.Tuple es k2 pt2) X.env = pure none) (h1 : (assignEach [.Tuple ts kt pt] X.env).map (·.2) = [assign (.Tuple ts kt pt) X.env]) :
    ES X S W own (.Assign [.Tuple ts kt pt] (.Tuple es k2 pt2) spos) (sAsgs gs is) := fun L hL => by
  subst hL
  refine PS.imp (ps_asg (pe_tup (ha L rfl)) (pg_tup hc (hg L rfl) hn hst) hs hw h1) fun D σ H ⟨F, ρ, r, q⟩ => ?_
  refine ⟨F, ρ, r, (PostS.bind (VP := fun σ ρ H F vs ds => AM σ ρ H F L fl vs ds) q).imp fun vs H1 ⟨F1, ρ1, ds, r1, s1, p1, q⟩ => ?_⟩
  obtain ⟨l1, l2⟩ := p1.length
  split at q
  · rename_i hz
    refine ⟨by rw [line_eq, l1]; exact hz, fun p np => ?_⟩
    have sH := upd_same' (o := HO.tup vs) np
    refine ⟨p, vs, rfl, SqT.of upd_same, by rw [l1, ← l2, hfl], F1, ρ1, ds, r1.newH np, ?_, fun σ' r' => q σ' _ F1 r' (Same.refl _)⟩
    clear q r s1
    have : ∀ {L' : LC} {fl : List Bool} {vs' : List V} {ds : List Dat}, AM σ ρ1 H1 F1 L' fl vs' ds → AM σ ρ1 (upd H1 p (.tup vs)) F1 L' fl vs' ds := fun {L' fl vs' ds} a => by
      induction a with
      | nil => exact .nil
      | p h _ ih => exact .p h ih
      | mN n h _ ih => exact .mN n h ih
      | mO e1 e2 q h0 nl _ ih => exact .mO (sH _ _ e1) e2 q h0 nl ih
    exact this p1
  · exact absurd q (by intro z; exact z)
end
end L2.PV
set_option Elab.async false
set_option linter.all false
set_option maxRecDepth 100000
set_option maxHeartbeats 2000000
namespace L2.PV
open PySem PySem.Spec PyProof.Rows
/-! ### lists of one's own changed -/
def ownK (S : Stc) (i : Nat) : Prop := S.ks[i]? = some Kd.m ∨ S.ks[i]? = some Kd.io
theorem Rel.liveOf {L : LC} {σ : L2.St} {H F : Hp} {ρ : Env} {i : Nat} {ds : List Dat} (r : Rel L σ H F ρ) (hk : ownK L.S i) (h : ρ[i]? = some (some (.list ds))) : ∃ a, LiveAt L σ ρ i a ∧ OwL L H F a ds := by
  rcases hk with hk | hk
  · obtain ⟨v, e, q⟩ := r.mu i _ hk h
    rcases q with ⟨ds', a, e1, e2, ow, z⟩ | ⟨n, _⟩
    · cases e1; subst e2; exact ⟨a, ⟨.inl hk, ⟨ds, h⟩, e⟩, ow⟩
    · exact absurd rfl (n ds)
  · obtain ⟨a, e⟩ := r.ioOnly i hk
    obtain ⟨_, _, _, e1, ds', e2, ow⟩ := r.io i a e
    rw [h] at e2; cases e2
    exact ⟨a, ⟨.inr hk, ⟨ds, h⟩, e1⟩, ow⟩
def lst? (ρ : Env) (i : Nat) : Option (List Dat) := match ρ[i]? with
  | some (some (.list ds)) => some ds
  | _ => none
theorem lst?_some {ρ : Env} {i : Nat} {ds : List Dat} (h : lst? ρ i = some ds) : ρ[i]? = some (some (.list ds)) := by
  unfold lst? at h
  split at h
  · rename_i e; cases h; exact e
  · cases h
/-- the live address stands while an expression runs: it is in σ -/
theorem LiveAt.again {L : LC} {σ : L2.St} {H F : Hp} {ρ ρ1 : Env} {i : Nat} {a : Addr} {ds : List Dat} (lv : LiveAt L σ ρ i a) (r : Rel L σ H F ρ1) (h : ρ1[i]? = some (some (.list ds))) : LiveAt L σ ρ1 i a ∧ OwL L H F a ds := by
  obtain ⟨b, l1, ow⟩ := r.liveOf lv.1 h
  have := l1.2.2
  rw [lv.2.2] at this
  cases this
  exact ⟨l1, ow⟩
def optE (o : Option (Env × Dat)) : R Dat := match o with
  | some (ρ, d) => .ok d ρ
  | none => .stuck
/-- a method with arguments on the list of slot i: u tells the new list and the value -/
def cMut (i : Nat) (u : List Dat → List Dat → Option (List Dat × Dat)) (gs : M (List Dat)) : M Dat := fun ρ => match lst? ρ i with
  | none => .stuck
  | some _ => match gs ρ with
    | .stuck => .stuck
    | .exc x ρ1 => .exc x ρ1
    | .ok es ρ1 => match lst? ρ1 i with
      | none => .stuck
      | some ds => optE ((u ds es).map fun p => (ρ1.set i (some (.list p.1)), p.2))
def uApp : List Dat → List Dat → Option (List Dat × Dat)
  | ds, [d] => if ds.length < lineN then some (ds ++ [d], .none) else none
  | _, _ => none
def uExt : List Dat → List Dat → Option (List Dat × Dat)
  | ds, [.list es] => if ds.length + es.length ≤ lineN then some (ds ++ es, .none) else none
  | _, _ => none
def uPop : List Dat → List Dat → Option (List Dat × Dat)
  | ds, [] => (ds[ds.length - 1]?).map fun d => (ds.dropLast, d)
  | _, _ => none
def uPopAt : List Dat → List Dat → Option (List Dat × Dat)
  | ds, [.int i] => if -(2 ^ 63) ≤ i ∧ i < 2 ^ 63 then (seqIndex? i ds.length).bind fun k => (ds[k]?).map fun d => (ds.eraseIdx k, d) else none
  | _, _ => none
def uIns : List Dat → List Dat → Option (List Dat × Dat)
  | ds, [.int i, d] => if ds.length < lineN ∧ 0 ≤ i ∧ i < 2 ^ 63 then some (ds.take i.toNat ++ [d] ++ ds.drop i.toNat, .none) else none
  | _, _ => none
/-- a rule of a method that changes a list -/
def MutR (S : Stc) (r : V → List V → Hp → VK → Prop) (u : List Dat → List Dat → Option (List Dat × Dat)) : Prop :=
  ∀ (H F : Hp) (a : Addr) (xs vs : List V) (ds es ds' : List Dat) (d : Dat) (Q : VK), Same F H → H a = some (.lst xs) → F a = none → RpA S.K S.G F xs ds → RpA S.K S.G F vs es → u ds es = some (ds', d) →
    (∀ ys v, RpA S.K S.G F ys ds' → Rp S.K S.G F v d → Q v (upd H a (.lst ys))) → r (.ref a) vs H Q
section
variable {S : Stc} {X : Cx} {W : WX} {own : Bool} {e : Expr} {es : List Expr} {g : M Dat} {gs : M (List Dat)} {pos apos cpos xpos : Pos} {x name : Str} {i : Nat} {id : String} {r : V → List V → Hp → VK → Prop} {u : List Dat → List Dat → Option (List Dat × Dat)}
theorem muApp : MutR S rAppend uApp := by
  intro H F a xs vs ds es ds' d Q s e n q qs hu k
  unfold uApp at hu
  split at hu
  · split at hu
    · rename_i hz
      cases hu
      obtain ⟨v, rfl, pv⟩ := rpa1 qs
      exact ⟨a, xs, v, rfl, rfl, e, by rw [line_eq, q.length]; exact hz, k _ _ (q.append (.one pv)) .non⟩
    · cases hu
  · cases hu
theorem muExt : MutR S rExtend uExt := by
  intro H F a xs vs ds es ds' d Q s e n q qs hu k
  unfold uExt at hu
  split at hu
  · split at hu
    · rename_i hz
      cases hu
      obtain ⟨v, rfl, pv⟩ := rpa1 qs
      cases pv with
      | lst h1 h2 => exact ⟨a, _, xs, _, rfl, rfl, e, s _ _ h1, by rw [line_eq, q.length, h2.length]; exact hz, k _ _ (q.append h2) .non⟩
    · cases hu
  · cases hu
theorem RpA.dropLast {K : PySem.W.Frag} {G : Str → Option Addr} {F : Hp} {vs : List V} {ds : List Dat} (h : RpA K G F vs ds) : RpA K G F vs.dropLast ds.dropLast := by
  rw [List.dropLast_eq_take, List.dropLast_eq_take, h.length]
  exact h.take _
theorem muPop : MutR S rPop uPop := by
  intro H F a xs vs ds es ds' d Q s e n q qs hu k
  unfold uPop at hu
  split at hu
  · cases c : ds[ds.length - 1]? with
    | none => rw [c] at hu; cases hu
    | some d0 =>
      rw [c] at hu
      cases hu
      cases qs
      obtain ⟨v, e1, e2⟩ := q.get c
      exact ⟨a, xs, v, rfl, rfl, e, by rw [q.length]; exact e1, k _ _ q.dropLast e2⟩
  · cases hu
theorem muPopAt : MutR S rPopAt uPopAt := by
  intro H F a xs vs ds es ds' d Q s e n q qs hu k
  unfold uPopAt at hu
  split at hu
  · rename_i j
    split at hu
    · rename_i hz
      obtain ⟨m, e1, e2⟩ := Option.bind_eq_some_iff.mp hu
      cases c : ds[m]? with
      | none => rw [c] at e2; cases e2
      | some d0 =>
        rw [c] at e2
        cases e2
        obtain ⟨v, rfl, pv⟩ := rpa1 qs
        cases pv
        obtain ⟨v, e3, e4⟩ := q.get c
        exact ⟨a, xs, _, m, v, rfl, rfl, e, hz.1, hz.2, by rw [q.length]; exact e1, e3, k _ _ (q.erase m) e4⟩
    · cases hu
  · cases hu
def rInsert : V → List V → Hp → VK → Prop := fun x vs H Q => ∃ (l : Addr) (xs : List V) (i : Int) (y : V), x = .ref l ∧ vs = [.int i, y] ∧ H l = some (.lst xs) ∧ xs.length < sizeLine ∧ 0 ≤ i ∧ i < 2 ^ 63 ∧
    Q .non (upd H l (.lst (xs.take i.toNat ++ [y] ++ xs.drop i.toNat)))
theorem muIns : MutR S rInsert uIns := by
  intro H F a xs vs ds es ds' d Q s e n q qs hu k
  unfold uIns at hu
  split at hu
  · split at hu
    · rename_i hz
      cases hu
      obtain ⟨v, w, rfl, pv, pw⟩ := rpa2 qs
      cases pv
      exact ⟨a, xs, _, w, rfl, rfl, e, by rw [line_eq, q.length]; exact hz.1, hz.2.1, hz.2.2, k _ _ (((q.take _).append (.one pw)).append (q.drop _)) .non⟩
    · cases hu
  · cases hu
theorem tMut_of {L : LC} (hk : ownK L.S i) (hr : MutR L.S r u) : ∀ σ H Q, tE L W (cMut i u gs) σ H Q → tBM L.S.K "list" r (tVar i) (tAs L W gs) σ H Q := fun σ H Q ⟨F, ρ, r0, q⟩ => by
  unfold cMut at q
  cases c : lst? ρ i with
  | none => rw [c] at q; exact absurd q (by intro z; exact z)
  | some ds0 =>
    rw [c] at q
    dsimp only at q
    obtain ⟨a, lv, xs, x1, x2, x3⟩ := r0.liveOf hk (lst?_some c)
    refine ⟨.ref a, lv.2.2, .inl ⟨rfl, xs, SqL.of x1⟩, F, ρ, r0, ?_⟩
    cases eg : gs ρ with
    | stuck => rw [eg] at q; exact q
    | exc x ρ1 => rw [eg] at q; exact q
    | ok es ρ1 =>
      rw [eg] at q
      dsimp only at q
      intro vs H1 F1 r1 s1 p1
      cases c1 : lst? ρ1 i with
      | none => rw [c1] at q; exact absurd q (by intro z; exact z)
      | some ds =>
        rw [c1] at q
        dsimp only at q
        obtain ⟨lv1, ys, y1, y2, y3⟩ := lv.again r1 (lst?_some c1)
        cases c2 : u ds es with
        | none => rw [c2] at q; exact absurd q (by intro z; exact z)
        | some p =>
          obtain ⟨ds', d⟩ := p
          rw [c2] at q
          refine hr H1 F1 a ys vs ds es ds' d Q r1.sub y1 y2 y3 p1 c2 fun zs v pz pv => ?_
          exact q v _ F1 (r1.updLive lv1 pz) s1 pv
theorem ee_mut (hK : X.K = S.K) (hN : X.N[i]? = some x) (hv : Vis X.env.scope x) (hk : ownK S i) (hd : (x == ("__debug__" : Str)) = false) (hcd : (x == ("__classdict__" : Str)) = false)
    (slot : Slot "list" name id) (hty : typeOf (.builtin id) = pure (.type "method_descriptor")) (hm : MtR X id r) (hr : MutR S r u) (ha : EA X S W (e :: es) gs)
    (hbase : attributeBase (.Name x xpos) name X.env (eval (.Name x xpos) X.env) = eval (.Name x xpos) X.env)
    (hfew : ((backTo cpos (starEach (e :: es) X.env)).all (fun x => !x.1) && (backToKw cpos (keywordEach [] X.env)).all (fun x => x.1.isSome)
      && decide ((e :: es).length + ([] : List Keyword).length + (if ([] : List Keyword).isEmpty then 0 else 1) < 30)) = true)
    (hline : (apos.endLine == cpos.line) = true) (hs : starEach (e :: es) X.env = (false, eval e X.env) :: starEach es X.env) (hplain : (backTo cpos (starEach es X.env)).any (·.1) = false) :
    EE X S W (.Call (.Attribute (.Name x xpos) name apos) (e :: es) [] cpos) (cMut i u gs) := fun L hL => by
  subst hL
  refine PE.imp (pe_bm PySem.F.plainAttrs_list slot hty hm (pe_var hN hv hd hcd) (ha L rfl) hbase hfew hline hs hplain) ?_
  rw [hK]
  exact tMut_of hk hr
theorem ee_mut0 (hK : X.K = S.K) (hN : X.N[i]? = some x) (hv : Vis X.env.scope x) (hk : ownK S i) (hd : (x == ("__debug__" : Str)) = false) (hcd : (x == ("__classdict__" : Str)) = false)
    (slot : Slot "list" name id) (hty : typeOf (.builtin id) = pure (.type "method_descriptor")) (hm : MtR X id r) (hr : MutR S r u)
    (hbase : attributeBase (.Name x xpos) name X.env (eval (.Name x xpos) X.env) = eval (.Name x xpos) X.env) (hline : (apos.endLine == cpos.line) = true) :
    EE X S W (.Call (.Attribute (.Name x xpos) name apos) [] [] cpos) (cMut i u cNil) := fun L hL => by
  subst hL
  refine PE.imp (pe_bm0 PySem.F.plainAttrs_list slot hty hm (pe_var hN hv hd hcd) hbase hline) fun σ H Q q => ?_
  rw [hK]
  obtain ⟨v, e, ty, q⟩ := tMut_of hk hr σ H Q q
  refine ⟨v, e, ty, ?_⟩
  obtain ⟨F, ρ, r0, q⟩ := q
  exact q [] H F r0 (Same.refl _) .nil
/-! ### xs[i] = v -/
def sSetIx (i : Nat) (gv gi : M Dat) : MS := sBind gv fun d ρ => match lst? ρ i with
  | none => .stuck
  | some _ => sBind gi (fun k ρ1 => match k, lst? ρ1 i with
    | .int k, some ds => match ixN ds.length k with
      | some j => .nx (ρ1.set i (some (.list (ds.set j d))))
      | none => .stuck
    | _, _ => .stuck) ρ
theorem es_setIx {ix : Expr} {gi : M Dat} {spos : Pos} (hN : X.N[i]? = some x) (hv : Vis X.env.scope x) (hk : ownK S i) (hd : (x == ("__debug__" : Str)) = false) (hcd : (x == ("__classdict__" : Str)) = false)
    (he : EE X S W e g) (hi : EE X S W ix gi) (hsw : swapsWithSole [.Subscript (.Name x xpos) ix pos] e spos.line X.env = pure false) (hw : swappedStores [.Subscript (.Name x xpos) ix pos] e X.env = pure none)
    (h1 : (assignEach [.Subscript (.Name x xpos) ix pos] X.env).map (·.2) = [assign (.Subscript (.Name x xpos) ix pos) X.env])
    (ha : ∀ v, assign (.Subscript (.Name x xpos) ix pos) X.env v = (do
      let ov ← holding [v] (eval (.Name x xpos) X.env)
      let iv ← holding [v, ov] (eval ix X.env)
      standAt pos
      holding [v, ov, iv] (setItem ov iv v)
      release [v, ov, iv] [])) :
    ES X S W own (.Assign [.Subscript (.Name x xpos) ix pos] e spos) (sSetIx i g gi) := fun L hL => by
  subst hL
  refine PS.imp (ps_asg (he L rfl) (pg_sub (pe_var hN hv hd hcd) (hi L rfl) set_list ha) hsw hw h1) fun D σ H ⟨F, ρ, r, q⟩ => ?_
  refine ⟨F, ρ, r, (PostS.bind (VP := vE L) q).imp fun v H1 ⟨F1, ρ1, d, r1, s1, p1, q⟩ => ?_⟩
  cases c : lst? ρ1 i with
  | none => rw [c] at q; exact absurd q (by intro z; exact z)
  | some ds0 =>
    rw [c] at q
    dsimp only at q
    obtain ⟨a, lv, xs, x1, x2, x3⟩ := r1.liveOf hk (lst?_some c)
    refine ⟨.ref a, lv.2.2, F1, ρ1, r1, ?_⟩
    unfold sBind at q
    cases eg : gi ρ1 with
    | stuck => rw [eg] at q; exact q
    | exc x ρ2 =>
      rw [eg] at q
      exact fun cls dd H' F' r' s' z => q cls dd σ H' F' r' s' z
    | ok k ρ2 =>
      rw [eg] at q
      dsimp only at q
      intro kv H2 F2 r2 s2 p2
      cases c2 : lst? ρ2 i with
      | none =>
        rw [c2] at q
        split at q
        · rename_i z; cases z
        · exact absurd q (by intro z; exact z)
      | some ds =>
        rw [c2] at q
        split at q
        · rename_i k ds' z
          cases z
          cases c3 : ixN ds.length k with
          | none => rw [c3] at q; exact absurd q (by intro z; exact z)
          | some j =>
            rw [c3] at q
            obtain ⟨lv2, ys, y1, y2, y3⟩ := lv.again r2 (lst?_some c2)
            cases p2
            refine ⟨a, ys, k, j, rfl, rfl, y1, by rw [y3.length]; exact c3, ?_⟩
            exact q σ _ F2 (r2.updLive lv2 (y3.set j (p1.mono s2))) s2
        · exact absurd q (by intro z; exact z)
end
end L2.PV
set_option Elab.async false
set_option linter.all false
set_option maxRecDepth 100000
set_option maxHeartbeats 2000000
namespace L2.PV
open PySem PySem.Spec PyProof.Rows
/-! ### defs: what a call does -/
structure Sg where
  np : Nat
  io : Option Nat
  own : Bool
/-- behind a call: ioa the list that is changed -/
structure Aft (K : PySem.W.Frag) (G : Str → Option Addr) (H F : Hp) (ioa : Option Addr) (iod : Dat) (H' F' : Hp) : Prop where
  sub : Same F' H'
  old : ∀ a o, H a = some o → (∀ b, ioa = some b → a ≠ b) → H' a = some o
  fold : Same F F'
  fnew : ∀ a, F' a ≠ none → H a ≠ none → F a ≠ none
  iox : ∀ a, ioa = some a → ∃ xs es, iod = .list es ∧ H' a = some (.lst xs) ∧ F' a = none ∧ RpA K G F' xs es
def resR (K : PySem.W.Frag) (G : Str → Option Addr) (own : Bool) (H H' F' : Hp) (v : V) (d : Dat) : Prop :=
  if own = true then (∃ es a xs, d = .list es ∧ v = .ref a ∧ H' a = some (.lst xs) ∧ F' a = none ∧ RpA K G F' xs es ∧ H a = none) ∨ ((∀ es, d ≠ .list es) ∧ Rp K G F' v d) else Rp K G F' v d
def argR (K : PySem.W.Frag) (G : Str → Option Addr) (H F : Hp) (vs : List V) (ds : List Dat) : Option Nat → Option Addr → Prop
  | none, ioa => ioa = none ∧ RpA K G F vs ds
  | some j, ioa => ∃ a xs es, ioa = some a ∧ H a = some (.lst xs) ∧ F a = none ∧ RpA K G F xs es ∧ ds[j]? = some (.list es) ∧ vs[j]? = some (.ref a) ∧ vs.length = ds.length ∧ ∀ k d, k ≠ j → ds[k]? = some d → ∃ v, vs[k]? = some v ∧ Rp K G F v d
def spF (K : PySem.W.Frag) (G : Str → Option Addr) (ex : Dat → Value → Option Addr → Hp → Prop) (sg : Sg) (sem : FnSem) : Sp := fun vs H Q E => vs.length = sg.np ∧ ∃ F ds ioa, Same F H ∧ argR K G H F vs ds sg.io ioa ∧ match sem ds with
  | .stuck => False
  | .ok d iod => ∀ v H' F', Aft K G H F ioa iod H' F' → resR K G sg.own H H' F' v d → Q v H'
  | .exc x iod => ∀ cls dd H' F', Aft K G H F ioa iod H' F' → ex x cls dd H' → E cls dd H'
/-! ### a body's start -/
def startE (n : Nat) (ds : List Dat) : Env := ds.map some ++ List.replicate (n - ds.length) none
def ioD (sg : Sg) (ρ : Env) : Dat := match sg.io with
  | none => .none
  | some j => match ρ[j]? with
    | some (some d) => d
    | _ => .none
def runF (sg : Sg) (n : Nat) (s : MS) : FnSem := fun ds => match s (startE n ds) with
  | .nx ρ => .ok .none (ioD sg ρ)
  | .rt d ρ => .ok d (ioD sg ρ)
  | .exc x ρ => .exc x (ioD sg ρ)
  | _ => .stuck
/-- the kinds of the parameters -/
def kindsOk (sg : Sg) (ks : List Kd) : Bool := (List.range ks.length).all fun i => match ks[i]? with
  | some .io => sg.io == some i && decide (i < sg.np)
  | some .p => !(sg.io == some i)
  | some .m => decide (sg.np ≤ i)
  | none => false
theorem kindsOk_io {sg : Sg} {ks : List Kd} (h : kindsOk sg ks = true) {i : Nat} (e : ks[i]? = some Kd.io) : sg.io = some i ∧ i < sg.np := by
  have hi := (List.getElem?_eq_some_iff.mp e).1
  have := List.all_eq_true.mp h i (List.mem_range.mpr hi)
  rw [e] at this
  simp only [Bool.and_eq_true, beq_iff_eq, decide_eq_true_eq] at this
  exact this
theorem kindsOk_m {sg : Sg} {ks : List Kd} (h : kindsOk sg ks = true) {i : Nat} (e : ks[i]? = some Kd.m) : sg.np ≤ i := by
  have hi := (List.getElem?_eq_some_iff.mp e).1
  have := List.all_eq_true.mp h i (List.mem_range.mpr hi)
  rw [e] at this
  simpa using this
theorem kindsOk_p {sg : Sg} {ks : List Kd} (h : kindsOk sg ks = true) {i : Nat} (e : ks[i]? = some Kd.p) : sg.io ≠ some i := by
  have hi := (List.getElem?_eq_some_iff.mp e).1
  have := List.all_eq_true.mp h i (List.mem_range.mpr hi)
  rw [e] at this
  simpa using this
theorem start_get {N : List Str} {vs : List V} {i : Nat} {v : V} (h : vs[i]? = some v) : (start N vs)[i]? = some (some v) := by
  unfold start
  have hl := (List.getElem?_eq_some_iff.mp h).1
  rw [List.getElem?_append_left (by rw [List.length_map]; exact hl), List.getElem?_map, h]
  rfl
theorem startE_get {n : Nat} {ds : List Dat} {i : Nat} {d : Dat} (h : (startE n ds)[i]? = some (some d)) : ds[i]? = some d := by
  unfold startE at h
  by_cases hi : i < ds.length
  · rw [List.getElem?_append_left (by rw [List.length_map]; exact hi), List.getElem?_map] at h
    cases e : ds[i]? with
    | none => rw [e] at h; cases h
    | some d' => rw [e] at h; cases h; rfl
  · rw [List.getElem?_append_right (by rw [List.length_map]; omega), List.getElem?_replicate] at h
    split at h <;> cases h
theorem startE_of {n : Nat} {ds : List Dat} {i : Nat} {d : Dat} (h : ds[i]? = some d) : (startE n ds)[i]? = some (some d) := by
  unfold startE
  have hl := (List.getElem?_eq_some_iff.mp h).1
  rw [List.getElem?_append_left (by rw [List.length_map]; exact hl), List.getElem?_map, h]
  rfl
theorem argR.len {K : PySem.W.Frag} {G : Str → Option Addr} {H F : Hp} {vs : List V} {ds : List Dat} {io : Option Nat} {ioa : Option Addr} (h : argR K G H F vs ds io ioa) : vs.length = ds.length := by
  cases io with
  | none => exact h.2.length
  | some j => obtain ⟨_, _, _, _, _, _, _, _, _, h, _⟩ := h; exact h
def ioP : Option Nat → Option Addr → Option (Nat × Addr)
  | some j, some a => some (j, a)
  | _, _ => none
/-- where a body begins -/
theorem rel_start {S : Stc} {sg : Sg} {N : List Str} {vs : List V} {ds : List Dat} {H F : Hp} {ioa : Option Addr} (hk : kindsOk sg S.ks = true) (hkl : S.ks.length = N.length) (hio : ∀ j, sg.io = some j → S.ks[j]? = some Kd.io) (hnp : vs.length = sg.np) (hN : sg.np ≤ N.length) (s : Same F H) (a : argR S.K S.G H F vs ds sg.io ioa) :
    Rel ⟨S, H, F, ioP sg.io ioa⟩ (start N vs) H F (startE N.length ds) := by
  have hl := a.len
  have noM : ∀ {i : Nat} {d : Dat}, S.ks[i]? = some Kd.m → (startE N.length ds)[i]? = some (some d) → False := fun {i d} e1 e2 => by
    have h1 := kindsOk_m hk e1
    have h2 := (List.getElem?_eq_some_iff.mp (startE_get e2)).1
    omega
  refine ⟨s, fun a o e _ => e, Same.refl _, fun a h _ => h, ?_, fun i d e1 e2 => ?_, fun i d e1 e2 => (noM e1 e2).elim, fun i b e => ?_, fun i e => ?_, fun i j b h1 h2 => ?_⟩
  · unfold startE start
    simp only [List.length_append, List.length_map, List.length_replicate]
    omega
  · have e3 := startE_get e2
    cases hio' : sg.io with
    | none =>
      rw [hio'] at a
      obtain ⟨v, e4, q⟩ := a.2.get e3
      exact ⟨v, start_get e4, q⟩
    | some j =>
      rw [hio'] at a
      obtain ⟨_, _, _, _, _, _, _, _, _, _, h⟩ := a
      have hne : i ≠ j := fun z => by subst z; exact kindsOk_p hk e1 hio'
      obtain ⟨v, e4, q⟩ := h i d hne e3
      exact ⟨v, start_get e4, q⟩
  · cases hio' : sg.io with
    | none => rw [hio'] at e; cases e
    | some j =>
      rw [hio'] at a e
      obtain ⟨a0, xs, es, rfl, h1, h2, h3, h4, h5, h6, h7⟩ := a
      cases e
      exact ⟨hio _ hio', (fun z => by have z : H b = none := z; rw [h1] at z; cases z), h2, start_get h5, es, startE_of h4, xs, h1, h2, h3⟩
  · obtain ⟨h1, _⟩ := kindsOk_io hk e
    rw [h1] at a
    obtain ⟨a0, xs, es, e0, _⟩ := a
    exact ⟨a0, by show ioP sg.io ioa = _; rw [h1, e0]; rfl⟩
  · obtain ⟨k1, ⟨d1, g1⟩, _⟩ := h1
    obtain ⟨k2, ⟨d2, g2⟩, _⟩ := h2
    rcases k1 with k1 | k1
    · exact (noM k1 g1).elim
    · rcases k2 with k2 | k2
      · exact (noM k2 g2).elim
      · have e1 := (kindsOk_io hk k1).1
        have e2 := (kindsOk_io hk k2).1
        rw [e1] at e2; cases e2; rfl
theorem rel_aft {S : Stc} {sg : Sg} {σ' : L2.St} {H F H' F' : Hp} {ρ' : Env} {vs : List V} {ds : List Dat} {ioa : Option Addr} (a : argR S.K S.G H F vs ds sg.io ioa) (r : Rel ⟨S, H, F, ioP sg.io ioa⟩ σ' H' F' ρ') :
    Aft S.K S.G H F ioa (ioD sg ρ') H' F' := by
  refine ⟨r.sub, fun b o e n => r.old b o e fun i c z => ?_, r.fold, r.fnew, fun b e => ?_⟩
  · cases hio : sg.io with
    | none => rw [hio] at z; cases z
    | some j =>
      rw [hio] at a z
      obtain ⟨a0, xs, es, rfl, _⟩ := a
      cases z
      exact n _ rfl
  · cases hio : sg.io with
    | none => rw [hio] at a; rw [a.1] at e; cases e
    | some j =>
      rw [hio] at a r
      obtain ⟨a0, xs, es, rfl, _⟩ := a
      cases e
      obtain ⟨_, _, _, _, es', e2, xs', x1, x2, x3⟩ := r.io j b rfl
      refine ⟨xs', es', ?_, x1, x2, x3⟩
      unfold ioD
      rw [hio]
      dsimp only
      rw [e2]
section
variable {P : Program} {w : World} {K : PySem.W.Frag} {mg : Str → Option Value} {base : Heap} {x qual : Str} {params : Arguments} {body : List Stmt} {scope : Scope} {f : Addr} {fd : FuncData} {S : Stc} {sg : Sg} {N ps : List Str} {k : Nat} {b : MS}
/-- a body keeps the promise -/
theorem tS_sp {S : Stc} {sg : Sg} {N : List Str} {b : MS} {vs : List V} {H : Hp} {Q : VK} {E : XK} (hk : kindsOk sg S.ks = true) (hkl : S.ks.length = N.length) (hio : ∀ j, sg.io = some j → S.ks[j]? = some Kd.io) (hN : sg.np ≤ N.length)
    (h : spF S.K S.G S.ex sg (runF sg N.length b) vs H Q E) : ∃ L, L.S = S ∧ tS L (fun cls dd _ H => E cls dd H) sg.own b { nx := fun _ H' => Q .non H', rt := Q } (start N vs) H := by
  obtain ⟨hl, F, ds, ioa, s, a, h⟩ := h
  have r := rel_start hk hkl hio hl hN s a
  refine ⟨_, rfl, F, _, r, ?_⟩
  unfold runF at h
  cases e : b (startE N.length ds) with
  | stuck => rw [e] at h; exact h
  | bk ρ' => rw [e] at h; exact absurd h (by intro z; exact z)
  | ct ρ' => rw [e] at h; exact absurd h (by intro z; exact z)
  | nx ρ' =>
    rw [e] at h
    intro σ' H' F' r' _
    refine h .non H' F' (rel_aft a r') ?_
    unfold resR
    by_cases hown : sg.own = true
    · rw [if_pos hown]; exact .inr ⟨fun _ z => (nomatch z), .non⟩
    · rw [if_neg hown]; exact .non
  | rt d ρ' =>
    rw [e] at h
    intro v σ' H' F' r' _ q
    refine h v H' F' (rel_aft a r') ?_
    unfold resR
    unfold vRet at q
    cases hown : sg.own with
    | true =>
      rw [hown] at q
      rw [if_pos rfl]
      have q : vO _ σ' ρ' H' F' v d := q
      rcases q with ⟨es, a', e1, e2, ⟨xs, x1, x2, x3⟩, h0, _⟩ | ⟨n, q⟩
      · exact .inl ⟨es, a', xs, e1, e2, x1, x2, x3, h0⟩
      · exact .inr ⟨n, q⟩
    | false =>
      rw [hown] at q
      rw [if_neg Bool.false_ne_true]
      exact q
  | exc x ρ' =>
    rw [e] at h
    intro cls dd σ' H' F' r' _ q
    exact h cls dd H' F' (rel_aft a r') q
theorem PSs.ex {X : Cx} {e : List Stmt} {S : Stc} {t : LC → TS} (h : ∀ L, L.S = S → PSs X e (t L)) : PSs X e (fun D σ H => ∃ L, L.S = S ∧ t L D σ H) := ⟨fun pins s σ H D I ⟨L, hL, q⟩ => (h L hL).run pins s σ H D I q⟩
/-- THE RULE for a def -/
theorem fnok (F : FunD K x qual params body scope [] [] f fd) (Sc : FnScope N ps scope) (hK : S.K = K) (hps : ps.length = sg.np) (hk : kindsOk sg S.ks = true) (hkl : S.ks.length = N.length) (hio : ∀ j, sg.io = some j → S.ks[j]? = some Kd.io)
    (hb : ∀ (cdv : Value) (A : Around) (outer : List PySem.Env) (s : Shared) (H : Hp) (E : XK), Room k (A.deeper (envOfC qual scope s.heap.objs.size f cdv)) →
      ESs (cxOf (L2.CX P w) P w K mg base N qual scope f cdv A outer s H E) S (fun cls dd _ H => E cls dd H) sg.own body b) :
    FnOk P w K mg base (L2.CX P w) (k + 1) f fd ps (spF S.K S.G S.ex sg (runF sg N.length b)) := by
  have hN : sg.np ≤ N.length := by
    have := congrArg List.length Sc.pre
    rw [List.length_take] at this
    omega
  refine F.ok Sc (fun vs H Q E h => by rw [h.1, hps]) fun cdv A outer s H vs Q E hr h => ⟨_, PSs.ex (S := S) (t := fun L => tS L (fun cls dd _ H => E cls dd H) sg.own b) (hb cdv A outer s H E hr), ?_⟩
  exact tS_sp hk hkl hio hN h
theorem fnok0 {fd : FuncData} {ps : List Str} {n : Nat} (hps : ps.length = sg.np) : FnOk P w K mg base (L2.CX P w) n f fd ps (spF S.K S.G S.ex sg fun _ => .stuck) :=
  ⟨fun vs H Q E h => by rw [h.1, hps], fun A outer s H args us vs Q E hr he hb hv ⟨_, _, _, _, _, _, h⟩ => h.elim⟩
end
/-! ### calls -/
/-- a call without a list that is changed -/
def cCall (φ : FnSem) (gs : M (List Dat)) : M Dat := M.bind gs fun ds ρ => match φ ds with
  | .stuck => .stuck
  | .ok d _ => .ok d ρ
  | .exc x _ => .exc x ρ
def cCallIo (φ : FnSem) (i j : Nat) (gs : M (List Dat)) : M Dat := M.bind gs fun ds ρ => match lst? ρ i with
  | none => .stuck
  | some es => match φ (ds.set j (.list es)) with
    | .ok d (.list es') => .ok d (ρ.set i (some (.list es')))
    | .exc x (.list es') => .exc x (ρ.set i (some (.list es')))
    | _ => .stuck
/-- the values of the arguments; at place j the list of slot i -/
inductive AI (K : PySem.W.Frag) (G : Str → Option Addr) (F : Hp) (v0 : V) : Nat → List V → List Dat → Prop
  | here {vs : List V} {ds : List Dat} : RpA K G F vs ds → AI K G F v0 0 (v0 :: vs) (.none :: ds)
  | there {j : Nat} {v : V} {d : Dat} {vs : List V} {ds : List Dat} : Rp K G F v d → AI K G F v0 j vs ds → AI K G F v0 (j + 1) (v :: vs) (d :: ds)
def EAi (X : Cx) (S : Stc) (W : WX) (i j : Nat) (es : List Expr) (g : M (List Dat)) : Prop := ∀ L, L.S = S → PA X es (rd L W (fun σ _ _ F vs ds => ∃ v0, σ[i]? = some (some v0) ∧ AI L.S.K L.S.G F v0 j vs ds) g)
theorem AI.mono {K : PySem.W.Frag} {G : Str → Option Addr} {F F' : Hp} {v0 : V} {j : Nat} {vs : List V} {ds : List Dat} (s : Same F F') (h : AI K G F v0 j vs ds) : AI K G F' v0 j vs ds := by
  induction h with
  | here r => exact .here (r.mono s)
  | there q _ ih => exact .there (q.mono s) ih
theorem AI.at {K : PySem.W.Frag} {G : Str → Option Addr} {F : Hp} {v0 : V} {j : Nat} {vs : List V} {ds : List Dat} (e : Dat) (h : AI K G F v0 j vs ds) : (ds.set j e)[j]? = some e ∧ vs[j]? = some v0 ∧ vs.length = (ds.set j e).length ∧ ∀ k d, k ≠ j → (ds.set j e)[k]? = some d → ∃ v, vs[k]? = some v ∧ Rp K G F v d := by
  induction h with
  | here r =>
    refine ⟨rfl, rfl, by rw [List.length_set]; exact congrArg (· + 1) r.length, fun k d hk hd => ?_⟩
    cases k with
    | zero => exact absurd rfl hk
    | succ k => exact r.get (i := k) (d := d) (by simpa using hd)
  | there q _ ih =>
    obtain ⟨h1, h2, h3, h4⟩ := ih
    refine ⟨by simpa using h1, by simpa using h2, by simpa using h3, fun k d hk hd => ?_⟩
    cases k with
    | zero => exact ⟨_, rfl, by simp at hd; subst hd; exact q⟩
    | succ k => exact h4 k d (by omega) (by simpa using hd)
section
variable {X : Cx} {S : Stc} {W : WX} {k : Nat} {f : Addr} {fd : FuncData} {ps : List Str} {sg : Sg} {φ : FnSem} {x y : Str} {e : Expr} {es : List Expr} {g : M Dat} {gs : M (List Dat)} {p pos : Pos} {i j : Nat}
def cHole (i : Nat) : M Dat := fun ρ => match lst? ρ i with
  | some _ => .ok .none ρ
  | none => .stuck
theorem eai_here (hN : X.N[i]? = some y) (hv : Vis X.env.scope y) (hd : (y == ("__debug__" : Str)) = false) (hcd : (y == ("__classdict__" : Str)) = false) (hk : ownK S i) (hr : EA X S W es gs) (hs : starEach (.Name y p :: es) X.env = (false, eval (.Name y p) X.env) :: starEach es X.env) :
    EAi X S W i 0 (.Name y p :: es) (cCons (cHole i) gs) := fun L hL => by
  subst hL
  refine PA.imp (pa_cons (pe_var hN hv hd hcd) (hr L rfl) hs) fun σ H Q ⟨F, ρ, r, q⟩ => ?_
  unfold cCons at q
  cases c : lst? ρ i with
  | none => unfold M.bind at q; rw [show cHole i ρ = .stuck by unfold cHole; rw [c]] at q; exact absurd q (by intro z; exact z)
  | some ds0 =>
    unfold M.bind at q
    rw [show cHole i ρ = .ok .none ρ by unfold cHole; rw [c]] at q
    have q : Post L W σ F _ (M.bind gs (fun ds => M.pure (.none :: ds)) ρ) Q := q
    obtain ⟨a, lv, _⟩ := r.liveOf hk (lst?_some c)
    refine ⟨.ref a, lv.2.2, F, ρ, r, (Post.bind (VP1 := vA L) q).imp fun vs H1 ⟨F1, ρ1, ds1, r1, s1, p1, q⟩ => ?_⟩
    exact q _ H1 F1 r1 (Same.refl _) ⟨_, lv.2.2, .here p1⟩
theorem eai_there (ha : EE X S W e g) (hr : EAi X S W i j es gs) (hs : starEach (e :: es) X.env = (false, eval e X.env) :: starEach es X.env) : EAi X S W i (j + 1) (e :: es) (cCons g gs) := fun L hL => by
  subst hL
  refine PA.imp (pa_cons (ha L rfl) (hr L rfl) hs) fun σ H Q q => ?_
  obtain ⟨F, ρ, r0, q⟩ := rd.bind2 (VP1 := vE L) (VP2 := fun σ _ _ F vs ds => ∃ v0, σ[i]? = some (some v0) ∧ AI L.S.K L.S.G F v0 j vs ds) vE.keep q
  refine ⟨F, ρ, r0, q.imp fun v H1 ⟨F1, ρ1, r1, q⟩ => ⟨F1, ρ1, r1, q.imp fun v2 H2 ⟨F2, ρ2, a, a2, r2, h1, ⟨v0, e0, h2⟩, q⟩ => ?_⟩⟩
  exact q _ H2 F2 r2 (Same.refl _) ⟨v0, e0, .there h1 h2⟩
/-- what comes of a call, at a caller -/
theorem Rel.call {L : LC} {σ : L2.St} {H F H' F' : Hp} {ρ : Env} {d : Dat} (r : Rel L σ H F ρ) (a : Aft L.S.K L.S.G H F none d H' F') : Rel L σ H' F' ρ :=
  r.grow a.sub (fun b o e => a.old b o e fun _ z => nomatch z) a.fold a.fnew
theorem Rel.callIo {L : LC} {σ : L2.St} {H F H' F' : Hp} {ρ : Env} {c : Addr} {es' : List Dat} {io : Dat} (r : Rel L σ H F ρ) (lv : LiveAt L σ ρ i c) (a : Aft L.S.K L.S.G H F (some c) io H' F') (e : io = .list es') : Rel L σ H' F' (ρ.set i (some (.list es'))) := by
  obtain ⟨xs, es, e1, h1, h2, h3⟩ := a.iox c rfl
  rw [e] at e1
  cases e1
  obtain ⟨ds, _, ys, y1, y2, y3⟩ := r.live lv
  let Hm : Hp := fun b => if b = c then H c else H' b
  have m1 : Hm c = H c := if_pos rfl
  have m2 : ∀ {b : Addr}, b ≠ c → Hm b = H' b := fun {b} n => if_neg n
  have nF : ∀ {b : Addr} {o : HO}, F' b = some o → b ≠ c := fun {b o} e z => by subst z; rw [h2] at e; cases e
  have r1 : Rel L σ Hm F' ρ := r.grow (fun b o e => by rw [m2 (nF e)]; exact a.sub _ _ e) (fun b o e => by
    by_cases z : b = c
    · subst z; rw [m1]; exact e
    · rw [m2 z]; exact a.old b o e fun b' z' => by cases z'; exact z) a.fold a.fnew
  have r2 := r1.updLive lv h3
  have : upd Hm c (.lst xs) = H' := by
    funext b
    by_cases z : b = c
    · subst z; rw [upd_same, h1]
    · rw [upd_ne z, m2 z]
  rw [this] at r2
  exact r2
theorem res_e {L : LC} {own : Bool} {σ : L2.St} {H H' F' : Hp} {ρ : Env} {v : V} {d : Dat} (ho : own = false) (h : resR L.S.K L.S.G own H H' F' v d) : vE L σ ρ H' F' v d := by
  unfold resR at h
  rw [ho, if_neg Bool.false_ne_true] at h
  exact h
theorem res_o {L : LC} {own : Bool} {σ : L2.St} {H F H' F' : Hp} {ρ ρ' : Env} {v : V} {d : Dat} (ho : own = true) (r : Rel L σ H F ρ) (lv : ∀ j a, LiveAt L σ ρ' j a → LiveAt L σ ρ j a) (h : resR L.S.K L.S.G own H H' F' v d) : vO L σ ρ' H' F' v d := by
  unfold resR at h
  rw [ho, if_pos rfl] at h
  rcases h with ⟨es, a, xs, e1, e2, e3, e4, e5, e6⟩ | h
  · exact .inl ⟨es, a, e1, e2, ⟨xs, e3, e4, e5⟩, r.free0 e6, fun j l => r.live_ne (lv j a l) e6 rfl⟩
  · exact .inr h
theorem live_set {L : LC} {σ : L2.St} {ρ : Env} {es es' : List Dat} (g : ρ[i]? = some (some (.list es))) : ∀ j a, LiveAt L σ (ρ.set i (some (.list es'))) j a → LiveAt L σ ρ j a := fun j a ⟨h1, ⟨ds, h2⟩, h3⟩ => by
  by_cases z : i = j
  · subst z; exact ⟨h1, ⟨es, g⟩, h3⟩
  · rw [List.getElem?_set_ne z] at h2; exact ⟨h1, ⟨ds, h2⟩, h3⟩
/-- the promise is asked with what the caller wants -/
theorem tCall_no {L : LC} {own : Bool} {VP : VPt V Dat} (hn : sg.io = none) (hlen : ∀ ds, φ ds ≠ .stuck → ds.length = sg.np) (hVP : ∀ σ H F ρ H' F' v d, Rel L σ H F ρ → resR L.S.K L.S.G sg.own H H' F' v d → VP σ ρ H' F' v d) :
    ∀ σ H Q, rd L W VP (cCall φ gs) σ H Q → tCallS (spF L.S.K L.S.G L.S.ex sg φ) (WE W) (tAs L W gs) σ H Q := fun σ H Q q => by
  obtain ⟨F, ρ, r, q⟩ := rd.bind (VP1 := vA L) q
  refine ⟨F, ρ, r, q.imp fun vs H1 ⟨F1, ρ1, ds, r1, p1, q⟩ => ?_⟩
  have q : Post L W σ F1 VP (match φ ds with | .stuck => .stuck | .ok d _ => .ok d ρ1 | .exc x _ => .exc x ρ1) Q := q
  refine ⟨?_, F1, ds, none, r1.sub, by rw [hn]; exact ⟨rfl, p1⟩, ?_⟩
  · rw [p1.length]
    refine hlen ds fun z => ?_
    rw [z] at q; exact q
  · cases c : φ ds with
    | stuck => rw [c] at q; exact q
    | ok d io =>
      rw [c] at q
      intro v H' F' a rr
      exact q v H' F' (r1.call a) a.fold (hVP σ H1 F1 ρ1 H' F' v d r1 rr)
    | exc x io =>
      rw [c] at q
      intro cls dd H' F' a ex
      exact q cls dd H' F' (r1.call a) a.fold ex
theorem tCall_io {L : LC} {own : Bool} {VP : VPt V Dat} (hn : sg.io = some j) (hk : ownK L.S i) (hlen : ∀ ds, φ ds ≠ .stuck → ds.length = sg.np) (hVP : ∀ σ H F ρ ρ' H' F' v d, Rel L σ H F ρ → (∀ j a, LiveAt L σ ρ' j a → LiveAt L σ ρ j a) → resR L.S.K L.S.G sg.own H H' F' v d → VP σ ρ' H' F' v d) :
    ∀ σ H Q, rd L W VP (cCallIo φ i j gs) σ H Q → tCallS (spF L.S.K L.S.G L.S.ex sg φ) (WE W) (rd L W (fun σ _ _ F vs ds => ∃ v0, σ[i]? = some (some v0) ∧ AI L.S.K L.S.G F v0 j vs ds) gs) σ H Q := fun σ H Q q => by
  obtain ⟨F, ρ, r, q⟩ := rd.bind (VP1 := fun σ _ _ F vs ds => ∃ v0, σ[i]? = some (some v0) ∧ AI L.S.K L.S.G F v0 j vs ds) q
  refine ⟨F, ρ, r, q.imp fun vs H1 ⟨F1, ρ1, ds, r1, ⟨v0, e0, p1⟩, q⟩ => ?_⟩
  have q : Post L W σ F1 VP (match lst? ρ1 i with
    | none => .stuck
    | some es => match φ (ds.set j (.list es)) with
      | .ok d (.list es') => .ok d (ρ1.set i (some (.list es')))
      | .exc x (.list es') => .exc x (ρ1.set i (some (.list es')))
      | _ => .stuck) Q := q
  cases c0 : lst? ρ1 i with
  | none => rw [c0] at q; exact absurd q (by intro z; exact z)
  | some es =>
    rw [c0] at q
    dsimp only at q
    obtain ⟨a, lv, xs, x1, x2, x3⟩ := r1.liveOf hk (lst?_some c0)
    have := lv.2.2
    rw [e0] at this
    cases this
    obtain ⟨t1, t2, t3, t4⟩ := p1.at (.list es)
    refine ⟨?_, F1, ds.set j (.list es), some a, r1.sub, by rw [hn]; exact ⟨a, xs, es, rfl, x1, x2, x3, t1, t2, t3, t4⟩, ?_⟩
    · rw [t3]
      refine hlen _ fun z => ?_
      rw [z] at q; exact q
    · cases c : φ (ds.set j (.list es)) with
      | stuck => rw [c] at q; exact q
      | ok d io =>
        rw [c] at q
        cases io with
        | list es' =>
          intro v H' F' af rr
          exact q v H' F' (r1.callIo lv af rfl) af.fold (hVP σ H1 F1 ρ1 _ H' F' v d r1 (live_set (lst?_some c0)) rr)
        | _ => exact absurd q (by intro z; exact z)
      | exc x io =>
        rw [c] at q
        cases io with
        | list es' =>
          intro cls dd H' F' af ex
          exact q cls dd H' F' (r1.callIo lv af rfl) af.fold ex
        | _ => exact absurd q (by intro z; exact z)
variable (F : FnOk X.prog X.w X.K X.mg X.base (L2.CX X.prog X.w) k f fd ps (spF S.K S.G S.ex sg φ)) (hr : Room k X.A) (hg : Gl X x) (hm : X.mg x = some (.ref f)) (hkp : PySem.W.keepIn X.K (.ref f) = true) (hb : Binds X.K fd ps []) (tk : Takes X W)
include F hr hg hm hkp hb tk
theorem ee_call (hn : sg.io = none) (ho : sg.own = false) (hlen : ∀ ds, φ ds ≠ .stuck → ds.length = sg.np) (ha : EA X S W (e :: es) gs) (hdb : (x == ("__debug__" : Str)) = false) (he : starEach (e :: es) X.env = (false, eval e X.env) :: starEach es X.env) (hpl : (backTo pos (starEach es X.env)).any (·.1) = false) :
    EE X S W (.Call (.Name x p) (e :: es) [] pos) (cCall φ gs) := fun L hL => by
  subst hL
  exact PE.imp (pe_callS F hr hg hm hkp hb (fun σ => passAt tk σ) (ha L rfl) hdb he hpl) (tCall_no (own := false) hn hlen fun σ H F ρ H' F' v d r rr => res_e ho rr)
theorem eo_call (hn : sg.io = none) (ho : sg.own = true) (hlen : ∀ ds, φ ds ≠ .stuck → ds.length = sg.np) (ha : EA X S W (e :: es) gs) (hdb : (x == ("__debug__" : Str)) = false) (he : starEach (e :: es) X.env = (false, eval e X.env) :: starEach es X.env) (hpl : (backTo pos (starEach es X.env)).any (·.1) = false) :
    EO X S W (.Call (.Name x p) (e :: es) [] pos) (cCall φ gs) := fun L hL => by
  subst hL
  exact PE.imp (pe_callS F hr hg hm hkp hb (fun σ => passAt tk σ) (ha L rfl) hdb he hpl) (tCall_no (own := true) hn hlen fun σ H F ρ H' F' v d r rr => res_o ho r (fun _ _ h => h) rr)
theorem ee_callIo (hn : sg.io = some j) (hk : ownK S i) (ho : sg.own = false) (hlen : ∀ ds, φ ds ≠ .stuck → ds.length = sg.np) (ha : EAi X S W i j (e :: es) gs) (hdb : (x == ("__debug__" : Str)) = false) (he : starEach (e :: es) X.env = (false, eval e X.env) :: starEach es X.env) (hpl : (backTo pos (starEach es X.env)).any (·.1) = false) :
    EE X S W (.Call (.Name x p) (e :: es) [] pos) (cCallIo φ i j gs) := fun L hL => by
  subst hL
  exact PE.imp (pe_callS F hr hg hm hkp hb (fun σ => passAt tk σ) (ha L rfl) hdb he hpl) (tCall_io (own := false) hn hk hlen fun σ H F ρ ρ' H' F' v d r lv rr => res_e ho rr)
theorem eo_callIo (hn : sg.io = some j) (hk : ownK S i) (ho : sg.own = true) (hlen : ∀ ds, φ ds ≠ .stuck → ds.length = sg.np) (ha : EAi X S W i j (e :: es) gs) (hdb : (x == ("__debug__" : Str)) = false) (he : starEach (e :: es) X.env = (false, eval e X.env) :: starEach es X.env) (hpl : (backTo pos (starEach es X.env)).any (·.1) = false) :
    EO X S W (.Call (.Name x p) (e :: es) [] pos) (cCallIo φ i j gs) := fun L hL => by
  subst hL
  exact PE.imp (pe_callS F hr hg hm hkp hb (fun σ => passAt tk σ) (ha L rfl) hdb he hpl) (tCall_io (own := true) hn hk hlen fun σ H F ρ ρ' H' F' v d r lv rr => res_o ho r lv rr)
end
end L2.PV
set_option Elab.async false
set_option linter.all false
set_option maxRecDepth 100000
set_option maxHeartbeats 2000000
namespace L2.PV
open PySem PySem.Spec PyProof.Rows
/-! ### or, of new lists -/
section
variable {X : Cx} {S : Stc} {W : WX} {a b e : Expr} {rest es : List Expr} {ga gb g : M Dat} {gs : M (List Dat)} {pos p : Pos}
theorem truV_own {L : LC} {σ : L2.St} {ρ : Env} {H F : Hp} {v : V} {d : Dat} {k : Bool} (s : Same F H) (p : vO L σ ρ H F v d) (e : hTru d = some k) : TruV L.S.K v H k := by
  rcases p with ⟨ds, a, e1, e2, ⟨xs, x1, x2, x3⟩, _, _⟩ | ⟨_, q⟩
  · subst e1; subst e2
    exact truV_of (S := L.S) (F := upd F a (.lst xs)) (fun b o h => by
      by_cases z : b = a
      · subst z; rw [upd_same] at h; rw [x1]; exact h
      · rw [upd_ne z] at h; exact s _ _ h) (.lst upd_same (x3.mono (upd_same' x2))) e
  · exact truV_of s q e
theorem eo_or (hK : X.K = S.K) (ha : EO X S W a ga) (hb : EO X S W (.BoolOp .Or (b :: rest) pos) gb) : EO X S W (.BoolOp .Or (a :: b :: rest) pos) (cOr ga gb) := fun L hL => by
  subst hL
  refine PE.imp (pe_orT (ha L rfl) (hb L rfl)) fun σ H Q q => ?_
  obtain ⟨F, ρ, r, q⟩ := rd.bind (VP1 := vO L) q
  refine ⟨F, ρ, r, q.imp fun v H1 ⟨F1, ρ1, d, r1, p1, q⟩ => ?_⟩
  cases e : hTru d with
  | none => rw [e] at q; exact absurd q (by intro z; exact z)
  | some k =>
    rw [e] at q
    refine ⟨k, hK ▸ truV_own r1.sub p1 e, ?_⟩
    cases k with
    | true => exact q v H1 F1 r1 (Same.refl _) p1
    | false => exact ⟨F1, ρ1, r1, q⟩
theorem eo_bone {op : BoolOp} (ha : EO X S W a ga) : EO X S W (.BoolOp op [a] pos) ga := fun L hL => pe_one (ha L hL)

/-! ### isinstance -/
def tyD : Dat → Option String
  | .none => some "NoneType"
  | .bool _ => some "bool"
  | .int _ => some "int"
  | .str _ => some "str"
  | .list _ => some "list"
  | .tuple _ => some "tuple"
  | .dict [(.none, .list _)] => some "list"
  | _ => none
def kitAnyB (t : String) : List String → Option Bool
  | [] => some false
  | c :: r => match kitB t c with
    | some true => some true
    | some false => kitAnyB t r
    | none => none
theorem kitAnyB_ok {K : PySem.W.Frag} {t : String} : ∀ {cs : List String} {b : Bool}, kitAnyB t cs = some b → PySem.W.kitAny K (.type t) (cs.map Value.type) = some b
  | [], b, h => h
  | c :: r, b, h => by
    unfold kitAnyB at h
    show PySem.W.kitAny K (.type t) (.type c :: r.map Value.type) = some b
    unfold PySem.W.kitAny
    cases e : kitB t c with
    | none => rw [e] at h; cases h
    | some k =>
      rw [e] at h
      rw [kit_ty e]
      cases k with
      | true => exact h
      | false => exact kitAnyB_ok h
theorem sql_ty {K : PySem.W.Frag} {H : Hp} {a : Addr} {xs : List V} (h : SqL K H a xs) : TyX K H (.ref a) (.type "list") := by
  rcases h with (h | ⟨o, h⟩) | ⟨o, its, n, h, c, _⟩
  · exact .base (.lst h)
  · exact .base (.frz h)
  · exact .kList h c
theorem sqt_ty {K : PySem.W.Frag} {H : Hp} {a : Addr} {xs : List V} (h : SqT K H a xs) : TyX K H (.ref a) (.type "tuple") := by
  rcases h with (h | ⟨o, h⟩) | ⟨o, its, n, h, c, _⟩
  · exact .base (.tup h)
  · exact .fTuple h
  · exact .kTuple h c
theorem tyD_ok {S : Stc} {H F : Hp} {v : V} {d : Dat} {t : String} (s : Same F H) (p : Rp S.K S.G F v d) (e : tyD d = some t) : TyX S.K H v (.type t) := by
  cases p with
  | non => cases e; exact .base .non
  | bl b => cases e; exact .base (.bl b)
  | int i => cases e; exact .base (.int i)
  | str z => cases e; exact .base (.str z)
  | lst h r => cases e; exact sql_ty (SqL.of (s _ _ h))
  | tup h r => cases e; exact sqt_ty (sqt_mono s h)
  | fn h => cases e
  | scr h r => cases e; exact sql_ty (s.seq h)
def hIsi (ts : List String) (d : Dat) : Option Dat := (tyD d).bind fun t => (kitAnyB t ts).map .bool
def cIsi (ts : List String) (g : M Dat) : M Dat := M.bind g fun d => M.lift (hIsi ts d)
/-- a built-in type by its name -/
def tyName (X : Cx) (x : Str) (t : String) : Prop := Gl X x ∧ X.mg x = none ∧ bootBuiltins x = some (.type t) ∧ x ≠ "__name__" ∧ (x == ("__debug__" : Str)) = false
theorem pe_tyName {x : Str} {t : String} (h : tyName X x t) : PE X (.Name x p) (tC (.ty t)) := pe_bltn h.1 h.2.1 h.2.2.1 rfl h.2.2.2.1 h.2.2.2.2
variable {p2 p3 : Pos} {kk : Nat}
theorem ee_isi1 {x : Str} {t : String} (hK : X.K = S.K) (hg : Gl X "isinstance") (hm : X.mg "isinstance" = none) (ht : tyName X x t) (ha : EE X S W a g) (he : starEach [a, .Name x p2] X.env = (false, eval a X.env) :: starEach [.Name x p2] X.env) : EE X S W (.Call (.Name "isinstance" p) [a, .Name x p2] [] pos) (cIsi [t] g) := fun L hL => by
  subst hL
  refine PE.imp (pe_callB call_isi hg hm (by decide +kernel) (pa_cons (ha L rfl) (pa_cons (pe_tyName ht) pa_nil rfl) he) (by decide) (by decide) he rfl) fun σ H Q q => ?_
  obtain ⟨F, ρ, r, q⟩ := rd.bind (VP1 := vE L) q
  refine ⟨F, ρ, r, q.imp fun v H1 ⟨F1, ρ1, d, r1, p1, q⟩ => ?_⟩
  obtain ⟨d', e, q⟩ := post_lift q
  unfold hIsi at e
  obtain ⟨t0, e1, e2⟩ := Option.bind_eq_some_iff.mp e
  obtain ⟨b, e3, e4⟩ := Option.map_eq_some_iff.mp e2
  subst e4
  refine ⟨v, .ty t, .type t0, .type t, b, rfl, .ty t, hK ▸ tyD_ok r1.sub p1 e1, ?_, q _ H1 F1 r1 (Same.refl _) (.bl b)⟩
  unfold kitAnyB at e3
  cases c : kitB t0 t with
  | none => rw [c] at e3; cases e3
  | some k =>
    rw [c] at e3
    cases k with
    | true => cases e3; exact kit_ty c
    | false => cases e3; exact kit_ty c
/-- the class names of a tuple -/
inductive TyNames (X : Cx) : List Expr → List String → Prop
  | nil : TyNames X [] []
  | cons {x : Str} {t : String} {p : Pos} {es : List Expr} {ts : List String} : tyName X x t → TyNames X es ts → TyNames X (.Name x p :: es) (t :: ts)
theorem pa_tyNames : ∀ {es : List Expr} {ts : List String}, TyNames X es ts → PA X es (fun _ H Q => Q (ts.map V.ty) H)
  | _, _, .nil => pa_nil
  | _, _, .cons h r => pa_cons (pe_tyName h) (pa_tyNames r) rfl
theorem paired_ty : ∀ ts : List String, Paired ClsV (ts.map V.ty) (ts.map Value.type)
  | [] => .nil
  | t :: ts => .cons (.ty t) (paired_ty ts)
theorem ee_isiT {es : List Expr} {ts : List String} (hK : X.K = S.K) (hg : Gl X "isinstance") (hm : X.mg "isinstance" = none) (ht : TyNames X es ts) (hl : ts.length ≤ lineN) (ha : EE X S W a g) (he : starEach [a, .Tuple es kk p2] X.env = (false, eval a X.env) :: starEach [.Tuple es kk p2] X.env) : EE X S W (.Call (.Name "isinstance" p) [a, .Tuple es kk p2] [] pos) (cIsi ts g) := fun L hL => by
  subst hL
  refine PE.imp (pe_callB call_isiT hg hm (by decide +kernel) (pa_cons (ha L rfl) (pa_cons (pe_tup (pa_tyNames ht)) pa_nil rfl) he) (by decide) (by decide) he rfl) fun σ H Q q => ?_
  obtain ⟨F, ρ, r, q⟩ := rd.bind (VP1 := vE L) q
  refine ⟨F, ρ, r, q.imp fun v H1 ⟨F1, ρ1, d, r1, p1, q⟩ => ?_⟩
  obtain ⟨d', e, q⟩ := post_lift q
  unfold hIsi at e
  obtain ⟨t0, e1, e2⟩ := Option.bind_eq_some_iff.mp e
  obtain ⟨b, e3, e4⟩ := Option.map_eq_some_iff.mp e2
  subst e4
  refine ⟨by rw [List.length_map, line_eq]; exact hl, fun tp np => ?_⟩
  have r2 := r1.newH (o := .tup (ts.map V.ty)) np
  exact ⟨v, tp, ts.map V.ty, .type t0, ts.map Value.type, b, rfl, upd_same, paired_ty ts, hK ▸ tyD_ok r2.sub p1 e1, kitAnyB_ok e3, q _ _ F1 r2 (Same.refl _) (.bl b)⟩

/-! ### list(range(..)) -/
def rgD (ds : List Dat) : Option (List Dat) := match ds with
  | [.int j] => if -(2 ^ 62) ≤ j ∧ j ≤ lineN then some (rangeD 0 j.toNat) else none
  | [.int i, .int j] => if -(2 ^ 62) ≤ i ∧ i < 2 ^ 62 ∧ -(2 ^ 62) ≤ j ∧ j < 2 ^ 62 ∧ (j - i).toNat ≤ lineN then some (rangeD i (j - i).toNat) else none
  | _ => none
def cRgL (gs : M (List Dat)) : M Dat := M.bind gs fun ds => M.lift ((rgD ds).map .list)
theorem rgV_rp {K : PySem.W.Frag} {G : Str → Option Addr} {F : Hp} {i j : Int} : RpA K G F (rgV i j) (rangeD i (j - i).toNat) := by
  unfold rgV rangeD
  induction (List.range (j - i).toNat) with
  | nil => exact .nil
  | cons n l ih => exact .cons (.int _) ih
theorem pa1_of {t : TA} (h : PA X [a] t) : PE X a (fun σ H Q => ∃ P, t σ H P ∧ ∀ v H', P [v] H' → Q v H') ∨ True := .inr trivial
theorem eo_rg1 (hc : X.calm = true) (hgl : Gl X "list") (hml : X.mg "list" = none) (hg : Gl X "range") (hm : X.mg "range" = none) (ha : EE X S W a g) (hs : starEach [a] X.env = (false, eval a X.env) :: starEach [] X.env) : EO X S W (.Call (.Name "list" p) [.Call (.Name "range" p2) [a] [] p3] [] pos) (cRgL (cCons g cNil)) := fun L hL => by
  subst hL
  refine PE.imp (pe_listRg hc hgl hml (prg_1 hg hm (ha L rfl) hs)) fun σ H Q q => ?_
  have q : rd L W (vO L) (M.bind g fun d => M.lift ((rgD [d]).map .list)) σ H Q := by
    obtain ⟨F, ρ, r, q⟩ := q
    refine ⟨F, ρ, r, ?_⟩
    unfold cRgL cCons cNil M.bind at q
    unfold M.bind
    cases e : g ρ with
    | stuck => rw [e] at q; exact q
    | exc x ρ' => rw [e] at q; exact q
    | ok d ρ' => rw [e] at q; exact q
  obtain ⟨F, ρ, r, q⟩ := rd.bind (VP1 := vE L) q
  refine ⟨F, ρ, r, q.imp fun v H1 ⟨F1, ρ1, d, r1, p1, q⟩ => ?_⟩
  obtain ⟨d', e, q⟩ := post_lift q
  obtain ⟨es, e1, e2⟩ := Option.map_eq_some_iff.mp e
  subst e2
  unfold rgD at e1
  split at e1
  · rename_i j ej
    split at e1
    · rename_i hz
      cases ej
      cases e1
      cases p1
      refine ⟨j, rfl, ⟨by omega, by omega, by omega, by have := hz.2; unfold lineN at this; omega, by have := hz.2; unfold lineN at this; omega⟩, fun q' nq => ?_⟩
      have := rgV_rp (K := L.S.K) (G := L.S.G) (F := F1) (i := 0) (j := j)
      rw [Int.sub_zero] at this
      exact (KontO.of r1 q).2.2 q' _ _ rfl nq this
    · cases e1
  · rename_i ej; cases ej
  · cases e1
theorem eo_rg2 (hc : X.calm = true) (hgl : Gl X "list") (hml : X.mg "list" = none) (hg : Gl X "range") (hm : X.mg "range" = none) (ha : EE X S W a ga) (hb : EE X S W b gb) (hs : starEach [a, b] X.env = (false, eval a X.env) :: starEach [b] X.env) (hs2 : starEach [b] X.env = (false, eval b X.env) :: starEach [] X.env)
    (hp : (backTo p3 (starEach [b] X.env)).any (·.1) = false) : EO X S W (.Call (.Name "list" p) [.Call (.Name "range" p2) [a, b] [] p3] [] pos) (cRgL (cCons ga (cCons gb cNil))) := fun L hL => by
  subst hL
  refine PE.imp (pe_listRg hc hgl hml (prg_2 hg hm (ha L rfl) (hb L rfl) hs hs2 hp)) fun σ H Q q => ?_
  have q : rd L W (vO L) (M.bind ga fun d => M.bind gb fun d' => M.lift ((rgD [d, d']).map .list)) σ H Q := by
    obtain ⟨F, ρ, r, q⟩ := q
    refine ⟨F, ρ, r, ?_⟩
    unfold cRgL cCons cNil M.bind at q
    unfold M.bind
    cases e : ga ρ with
    | stuck => rw [e] at q; exact q
    | exc x ρ' => rw [e] at q; exact q
    | ok d ρ' =>
      rw [e] at q
      dsimp only at q ⊢
      cases e : gb ρ' with
      | stuck => rw [e] at q; exact q
      | exc x ρ' => rw [e] at q; exact q
      | ok d ρ' => rw [e] at q; exact q
  obtain ⟨F, ρ, r, q⟩ := rd.bind2 (VP1 := vE L) (VP2 := vE L) vE.keep q
  refine ⟨F, ρ, r, q.imp fun v H1 ⟨F1, ρ1, r1, q⟩ => ⟨F1, ρ1, r1, q.imp fun v2 H2 ⟨F2, ρ2, d, d2, r2, p1, p2, q⟩ => ?_⟩⟩
  obtain ⟨d', e, qq⟩ := post_lift q
  obtain ⟨es, e1, e2⟩ := Option.map_eq_some_iff.mp e
  subst e2
  unfold rgD at e1
  split at e1
  · rename_i ej; cases ej
  · rename_i i j ej
    split at e1
    · rename_i hz
      cases ej
      cases e1
      cases p1
      cases p2
      exact ⟨i, j, rfl, rfl, ⟨hz.1, hz.2.1, hz.2.2.1, hz.2.2.2.1, by have := hz.2.2.2.2; unfold lineN at this; omega⟩, fun q' nq => (KontO.of r2 qq).2.2 q' _ _ rfl nq rgV_rp⟩
    · cases e1
  · cases e1
end
end L2.PV
set_option Elab.async false
set_option linter.all false
set_option maxRecDepth 100000
set_option maxHeartbeats 2000000
namespace L2.PV
open PySem PySem.Spec PyProof.Rows
/-! ### from the text to its meaning -/
inductive GK where
  | blt
  | fn (sg : Sg) (φ : FnSem)
  | con (d : Dat)
  | no
structure CC where
  N : List Str
  sc : Scope
  ks : List Kd
  tg : Str → Bool
  gk : Str → GK
  mv : Bool
def slotOf : List Str → Str → Option Nat
  | [], _ => none
  | y :: ys, x => if y = x then some 0 else (slotOf ys x).map (· + 1)
theorem slotOf_ok : ∀ {N : List Str} {x : Str} {i : Nat}, slotOf N x = some i → N[i]? = some x
  | [], _, _, h => by cases h
  | y :: ys, x, i, h => by
    unfold slotOf at h
    split at h
    · rename_i e; cases h; subst e; rfl
    · obtain ⟨j, e1, e2⟩ := Option.map_eq_some_iff.mp h
      subst e2
      rw [List.getElem?_cons_succ]
      exact slotOf_ok e1
def visB (sc : Scope) (x : Str) : Bool := match sc.names.lookup x with
  | some .local => true
  | some .cell => true
  | some .free => true
  | _ => false
theorem visB_ok {sc : Scope} {x : Str} (h : visB sc x = true) : Vis sc x := by
  unfold visB at h
  split at h
  · rename_i e; exact .inl e
  · rename_i e; exact .inr (.inl e)
  · rename_i e; exact .inr (.inr e)
  · cases h
def glB (sc : Scope) (x : Str) : Bool := match sc.names.lookup x with
  | some .globalImplicit => true
  | _ => false
def okName (x : Str) : Bool := !(x == ("__debug__" : Str)) && !(x == ("__classdict__" : Str)) && !(x == ("__name__" : Str))
theorem okName_ok {x : Str} (h : okName x = true) : (x == ("__debug__" : Str)) = false ∧ (x == ("__classdict__" : Str)) = false ∧ x ≠ "__name__" := by
  unfold okName at h
  simp only [Bool.and_eq_true, Bool.not_eq_true'] at h
  exact ⟨h.1.1, h.1.2, fun z => by rw [z] at h; simp at h⟩
def CC.slot (cc : CC) (k : Kd) (x : Str) : Option Nat := if visB cc.sc x && okName x then (slotOf cc.N x).bind fun i => if cc.ks[i]? = some k then some i else none else none
def CC.oslot (cc : CC) (x : Str) : Option Nat := if visB cc.sc x && okName x then (slotOf cc.N x).bind fun i => if cc.ks[i]? = some Kd.m ∨ cc.ks[i]? = some Kd.io then some i else none else none
def CC.isBlt (cc : CC) (x : Str) : Bool := glB cc.sc x && okName x && (match cc.gk x with | .blt => true | _ => false)
def CC.allP (cc : CC) : CC := { cc with ks := cc.ks.map fun _ => Kd.p }
def CC.own (cc : CC) : Bool := cc.ks.any fun k => decide (k ≠ .p)
def tgB (scope : Scope) (x : Str) : Bool := match scope.names.lookup x with
  | some .local => true
  | some .cell => true
  | _ => false
def CC.blk (cc : CC) (scope : Scope) : CC := { cc with sc := relS scope cc.sc, tg := tgB scope, mv := false }

structure XOk (X : Cx) (S : Stc) (W : WX) (cc : CC) : Prop where
  hK : X.K = S.K
  ks : S.ks = cc.ks
  calm : X.calm = true
  nd : X.N.Nodup
  hN : X.N = cc.N
  sc : X.env.scope = cc.sc
  tg : ∀ x, cc.tg x = true → Loc X.env.scope x ∧ (X.fn x = true ∨ X.env.scope.names.lookup x = some .local)
  tk : Takes X W
  un : X.A.units + 70 < cLine
  bl : ∀ x, cc.gk x = .blt → X.mg x = none
  fn : ∀ x sg φ, cc.gk x = .fn sg φ → ∃ k f fd ps, FnOk X.prog X.w X.K X.mg X.base (L2.CX X.prog X.w) k f fd ps (spF S.K S.G S.ex sg φ) ∧ Room k X.A ∧ X.mg x = some (.ref f) ∧ PySem.W.keepIn X.K (.ref f) = true ∧ Binds X.K fd ps [] ∧ (∀ ds, φ ds ≠ .stuck → ds.length = sg.np)
  con : ∀ x d, cc.gk x = .con d → ∃ u v, X.mg x = some u ∧ RelV v u ∧ ∀ F, Rp S.K S.G F v d
section
variable {X : Cx} {S : Stc} {W : WX} {cc : CC}
theorem XOk.allP (o : XOk X S W cc) : XOk X (allP S) W cc.allP := ⟨o.hK, by show S.ks.map _ = cc.ks.map _; rw [o.ks], o.calm, o.nd, o.hN, o.sc, o.tg, o.tk, o.un, o.bl, o.fn, o.con⟩
theorem XOk.blk (o : XOk X S W cc) {scope : Scope} (s : Shared) (H : Hp) (C : Addr) (cl : List (Str × Addr)) (fp : List Addr) : XOk (X.blk s H scope (compEnvC scope cl C X.env) fp) S W0 (cc.blk scope) := by
  refine ⟨o.hK, o.ks, o.calm, o.nd, o.hN, ?_, fun x hx => ?_, takes0, o.un, o.bl, o.fn, o.con⟩
  · show relS scope X.env.scope = relS scope cc.sc
    rw [o.sc]
  · have hx : tgB scope x = true := hx
    show Loc (relS scope X.env.scope) x ∧ ((scope.names.lookup x == some .cell) = true ∨ (relS scope X.env.scope).names.lookup x = some .local)
    unfold tgB at hx
    split at hx
    · rename_i e
      have := lookup_relS_keep (sc := X.env.scope) (k := .local) (by decide) e
      exact ⟨.inl this, .inr this⟩
    · rename_i e
      have := lookup_relS_keep (sc := X.env.scope) (k := .cell) (by decide) e
      exact ⟨.inr this, .inl (by rw [e]; rfl)⟩
    · cases hx
theorem XOk.mvF (o : XOk X S W cc) (b : Bool) : XOk X S W { cc with mv := b } := ⟨o.hK, o.ks, o.calm, o.nd, o.hN, o.sc, o.tg, o.tk, o.un, o.bl, o.fn, o.con⟩
theorem XOk.slotP (o : XOk X S W cc) {k : Kd} {x : Str} {i : Nat} (h : cc.slot k x = some i) : X.N[i]? = some x ∧ Vis X.env.scope x ∧ S.ks[i]? = some k ∧ (x == ("__debug__" : Str)) = false ∧ (x == ("__classdict__" : Str)) = false := by
  unfold CC.slot at h
  split at h
  · rename_i hv
    rw [Bool.and_eq_true] at hv
    obtain ⟨j, e1, e2⟩ := Option.bind_eq_some_iff.mp h
    split at e2
    · rename_i e3
      cases e2
      obtain ⟨d1, d2, d3⟩ := okName_ok hv.2
      exact ⟨by rw [o.hN]; exact slotOf_ok e1, by rw [o.sc]; exact visB_ok hv.1, by rw [o.ks]; exact e3, d1, d2⟩
    · cases e2
  · cases h
theorem XOk.slotO (o : XOk X S W cc) {x : Str} {i : Nat} (h : cc.oslot x = some i) : X.N[i]? = some x ∧ Vis X.env.scope x ∧ ownK S i ∧ (x == ("__debug__" : Str)) = false ∧ (x == ("__classdict__" : Str)) = false := by
  unfold CC.oslot at h
  split at h
  · rename_i hv
    rw [Bool.and_eq_true] at hv
    obtain ⟨j, e1, e2⟩ := Option.bind_eq_some_iff.mp h
    split at e2
    · rename_i e3
      cases e2
      obtain ⟨d1, d2, d3⟩ := okName_ok hv.2
      exact ⟨by rw [o.hN]; exact slotOf_ok e1, by rw [o.sc]; exact visB_ok hv.1, by unfold ownK; rw [o.ks]; exact e3, d1, d2⟩
    · cases e2
  · cases h
theorem XOk.glob (o : XOk X S W cc) {x : Str} (h : glB cc.sc x = true) : Gl X x := by
  unfold glB at h
  split at h
  · rename_i e
    show X.env.scope.names.lookup x = some .globalImplicit
    rw [o.sc]; exact e
  · cases h
theorem XOk.blt (o : XOk X S W cc) {x : Str} (h : cc.isBlt x = true) : Gl X x ∧ X.mg x = none ∧ (x == ("__debug__" : Str)) = false ∧ x ≠ "__name__" := by
  unfold CC.isBlt at h
  simp only [Bool.and_eq_true] at h
  obtain ⟨⟨h1, h2⟩, h3⟩ := h
  obtain ⟨d1, d2, d3⟩ := okName_ok h2
  refine ⟨o.glob h1, o.bl x ?_, d1, d3⟩
  split at h3
  · assumption
  · cases h3
end

/-! ### side conditions -/
def notStar : Expr → Bool
  | .Starred _ _ => false
  | _ => true
theorem star_cons {e : Expr} {es : List Expr} {env : PySem.Env} (h : notStar e = true) : starEach (e :: es) env = (false, eval e env) :: starEach es env := by
  cases e <;> first | rfl | cases h
theorem star_star {e : Expr} {es : List Expr} {env : PySem.Env} {p : Pos} : starEach (.Starred e p :: es) env = (true, eval e env) :: starEach es env := rfl
theorem star_any {es : List Expr} {env : PySem.Env} (h : es.all notStar = true) : (starEach es env).any (·.1) = false := by
  induction es with
  | nil => rfl
  | cons e es ih =>
    rw [List.all_cons, Bool.and_eq_true] at h
    rw [star_cons h.1, List.any_cons, ih h.2]
    rfl
theorem back_any {es : List Expr} {env : PySem.Env} {pos : Pos} (h : es.all notStar = true) : (backTo pos (starEach es env)).any (·.1) = false := by
  have := star_any (env := env) h
  unfold backTo
  rw [List.any_map]
  exact this
theorem back_all {es : List Expr} {env : PySem.Env} {pos : Pos} (h : es.all notStar = true) : (backTo pos (starEach es env)).all (fun x => !x.1) = true := by
  unfold backTo
  rw [List.all_map]
  induction es with
  | nil => rfl
  | cons e es ih =>
    rw [List.all_cons, Bool.and_eq_true] at h
    rw [star_cons h.1, List.all_cons, ih h.2]
    rfl
def notSet : Expr → Bool
  | .Set _ _ _ => false
  | _ => true
theorem folded_ok {e : Expr} (h : notSet e = true) (env : PySem.Env) (x : Value) : foldedSetIterable e env x = pure x := by
  cases e <;> first | rfl | cases h
def notSlice : Expr → Bool
  | .Slice _ _ _ _ => false
  | _ => true
theorem plainIx_ok {e : Expr} (h : notSlice e = true) : PlainIx e := fun o i => by
  cases e <;> first | rfl | cases h
def notComp : Expr → Bool
  | .ListComp _ _ _ _ => false
  | .SetComp _ _ _ _ => false
  | .DictComp _ _ _ _ _ => false
  | _ => true
theorem swaps_none {e : Expr} (h : notComp e = true) (t : Option Expr) (l : Nat) (env : PySem.Env) : swapsWith e t l env = pure false := by
  cases e <;> first | rfl | cases h
theorem assignEach_cons {e : Expr} {es : List Expr} {env : PySem.Env} (h : notStar e = true) : assignEach (e :: es) env = (false, assign e env) :: assignEach es env := by
  cases e <;> first | rfl | cases h
theorem assignEach_len {es : List Expr} {env : PySem.Env} (h : es.all notStar = true) : (assignEach es env).length = es.length := by
  induction es with
  | nil => rfl
  | cons e es ih =>
    rw [List.all_cons, Bool.and_eq_true] at h
    rw [assignEach_cons h.1, List.length_cons, ih h.2]
    rfl
theorem assignEach_find {es : List Expr} {env : PySem.Env} (h : es.all notStar = true) : (assignEach es env).findIdx? (·.1) = none := by
  rw [List.findIdx?_eq_none_iff]
  intro x hx
  induction es with
  | nil => cases hx
  | cons e es ih =>
    rw [List.all_cons, Bool.and_eq_true] at h
    rw [assignEach_cons h.1] at hx
    rcases List.mem_cons.mp hx with rfl | hx
    · rfl
    · exact ih h.2 hx

/-! ### operators -/
def opE : Operator → Option (Dat → Dat → Option Dat)
  | .Sub => some hSub
  | .FloorDiv => some hDiv
  | .Mod => some hMod
  | .Pow => some hPow
  | _ => none
def opO : Operator → Option (Dat → Dat → Option Dat)
  | .Add => some hAdd
  | .Mult => some hMul
  | _ => none
def opC : CmpOp → Dat → Dat → Option Dat
  | .Eq => hEq
  | .NotEq => hNe
  | .Lt => hLt
  | .LtE => hLe
  | .Gt => hGt
  | .GtE => hGe
  | .Is => hIs
  | .IsNot => hIsNot
  | .In => hIn
  | .NotIn => hNotIn
theorem opE_ok {X : Cx} {S : Stc} {op : Operator} {h : Dat → Dat → Option Dat} (e : opE op = some h) : ∃ r, OpR X (binaryOp op) r ∧ OpE S r h := by
  cases op <;> first | cases e; done | skip
  · cases e; exact ⟨_, op_sub, subE⟩
  · cases e; exact ⟨_, op_mod, modE⟩
  · cases e; exact ⟨_, op_pow, powE⟩
  · cases e; exact ⟨_, op_fdivW, divE⟩
theorem opO_ok {X : Cx} {S : Stc} {op : Operator} {h : Dat → Dat → Option Dat} (hK : X.K = S.K) (e : opO op = some h) : ∃ r, OpR X (binaryOp op) r ∧ OpO S r h := by
  cases op <;> first | cases e; done | skip
  · cases e; exact ⟨_, op_addA, hK ▸ addO⟩
  · cases e; exact ⟨_, op_mulA, hK ▸ mulO⟩
theorem opC_ok {X : Cx} {S : Stc} (op : CmpOp) (hK : X.K = S.K) (hu : X.A.units + 70 < cLine) : ∃ r, OpR X (compareOp op) r ∧ OpE S r (opC op) := by
  cases op
  · exact ⟨_, op_eqD (by omega), hK ▸ eqE⟩
  · exact ⟨_, op_neD (by omega), hK ▸ neE⟩
  · exact ⟨_, op_ltA (by omega), hK ▸ ltE⟩
  · exact ⟨_, op_le, leE⟩
  · exact ⟨_, op_gt, gtE⟩
  · exact ⟨_, op_ge, geE⟩
  · exact ⟨_, op_isA, isE⟩
  · exact ⟨_, op_isNotA, isNotE⟩
  · exact ⟨_, op_inA (by omega), hK ▸ inE⟩
  · exact ⟨_, op_notInA (by omega), hK ▸ notInE⟩
/-! ### built-ins -/
inductive BF where | len | abs | int | tuple | sum | any | all
  deriving DecidableEq, Repr
inductive BO where | list | sorted
  deriving DecidableEq, Repr
def bfOf (x : Str) : Option BF :=
  if x = "len" then some .len else if x = "abs" then some .abs else if x = "int" then some .int else if x = "tuple" then some .tuple else if x = "sum" then some .sum else if x = "any" then some .any else if x = "all" then some .all else none
def boOf (x : Str) : Option BO := if x = "list" then some .list else if x = "sorted" then some .sorted else none
def hBF : BF → List Dat → Option Dat
  | .len => hLen
  | .abs => hAbs
  | .int => hInt
  | .tuple => hTuple
  | .sum => hSum
  | .any => hAny
  | .all => hAll
noncomputable def hBO : BO → List Dat → Option Dat
  | .list => hList
  | .sorted => hSorted1
section
variable {X : Cx} {S : Stc} {W : WX} {cc : CC} {e : Expr} {es : List Expr} {gs : M (List Dat)} {p pos : Pos} {x : Str}
theorem ee_bf (o : XOk X S W cc) {b : BF} (hb : bfOf x = some b) (hx : cc.isBlt x = true) (hs : (e :: es).all notStar = true) (ha : EA X S W (e :: es) gs) : EE X S W (.Call (.Name x p) (e :: es) [] pos) (cCB (hBF b) gs) := by
  obtain ⟨g1, g2, g3, g4⟩ := o.blt hx
  have hs' := hs
  rw [List.all_cons, Bool.and_eq_true] at hs'
  have he := star_cons (es := es) (env := X.env) hs'.1
  have hp := back_any (env := X.env) (pos := pos) hs'.2
  have hK := o.hK
  unfold bfOf at hb
  split at hb
  · rename_i ex; cases hb; exact ee_callB (r := rLenA S.K) (hK ▸ call_len) lenD g1 g2 (by rw [ex]; decide +kernel) ha g4 g3 he hp
  split at hb
  · rename_i ex; cases hb; exact ee_callB call_abs absD g1 g2 (by rw [ex]; decide +kernel) ha g4 g3 he hp
  split at hb
  · rename_i ex; cases hb; exact ee_callTy call_int1 intD g1 g2 (by rw [ex]; decide +kernel) ha g4 g3 he hp
  split at hb
  · rename_i ex; cases hb; exact ee_callTy (r := rTupleA S.K) (hK ▸ call_tuple_of) tupleD g1 g2 (by rw [ex]; decide +kernel) ha g4 g3 he hp
  split at hb
  · rename_i ex; cases hb; exact ee_callB (r := rSum S.K) (hK ▸ cr_sum o.calm) sumD g1 g2 (by rw [ex]; decide +kernel) ha g4 g3 he hp
  split at hb
  · rename_i ex; cases hb; exact ee_callB (r := rAny S.K) (hK ▸ cr_any o.calm) anyD g1 g2 (by rw [ex]; decide +kernel) ha g4 g3 he hp
  split at hb
  · rename_i ex; cases hb; exact ee_callB (r := rAll S.K) (hK ▸ cr_all o.calm) allD g1 g2 (by rw [ex]; decide +kernel) ha g4 g3 he hp
  cases hb
theorem eo_bo (o : XOk X S W cc) {b : BO} (hb : boOf x = some b) (hx : cc.isBlt x = true) (hs : (e :: es).all notStar = true) (ha : EA X S W (e :: es) gs) : EO X S W (.Call (.Name x p) (e :: es) [] pos) (cCB (hBO b) gs) := by
  obtain ⟨g1, g2, g3, g4⟩ := o.blt hx
  have hs' := hs
  rw [List.all_cons, Bool.and_eq_true] at hs'
  have he := star_cons (es := es) (env := X.env) hs'.1
  have hp := back_any (env := X.env) (pos := pos) hs'.2
  have hK := o.hK
  have hu := o.un
  unfold boOf at hb
  split at hb
  · rename_i ex; cases hb; exact eo_callTy (r := rListA S.K) (hK ▸ call_listA o.calm) listO g1 g2 (by rw [ex]; decide +kernel) ha g4 g3 he hp
  split at hb
  · rename_i ex; cases hb; exact eo_callB (r := rSortA S.K) (hK ▸ cr_sortA hu) sortedO g1 g2 (by rw [ex]; decide +kernel) ha g4 g3 he hp
  cases hb
end
end L2.PV
set_option Elab.async false
set_option linter.all false
set_option maxRecDepth 100000
set_option maxHeartbeats 4000000
namespace L2.PV
open PySem PySem.Spec PyProof.Rows
/-! ### the meaning of expressions, one step over what is known -/
structure Cs where
  e : CC → Expr → Option (M Dat)
  o : CC → Expr → Option (M Dat)
  t : CC → Expr → Option (M Bool)
  w : CC → Expr → Option (M Bool)
  a : CC → List Expr → Option (M (List Dat))
  i : CC → Expr → Expr → Option (M (List Dat))
  p : CC → Option Expr → Option (M (Option Int))
structure Snd (C : Cs) : Prop where
  e : ∀ {X S W cc x g}, XOk X S W cc → C.e cc x = some g → EE X S W x g
  o : ∀ {X S W cc x g}, XOk X S W cc → C.o cc x = some g → EO X S W x g
  t : ∀ {X S W cc x g}, XOk X S W cc → C.t cc x = some g → ET X S W x g
  w : ∀ {X S W cc x g}, XOk X S W cc → C.w cc x = some g → EW X S W x g
  a : ∀ {X S W cc x g}, XOk X S W cc → C.a cc x = some g → EA X S W x g
  i : ∀ {X S W cc tg x g}, XOk X S W cc → C.i cc tg x = some g → EI X S W tg x g
  p : ∀ {X S W cc x g}, XOk X S W cc → C.p cc x = some g → EP' X S W x g

def constD : Const → Option Dat
  | .none => some .none
  | .bool b => some (.bool b)
  | .int i => some (.int i)
  | .str s => some (.str s)
  | _ => none
def tyNm (cc : CC) (x : Str) : Option String :=
  if cc.isBlt x then
    if x = "int" then some "int" else if x = "bool" then some "bool" else if x = "str" then some "str" else if x = "list" then some "list" else if x = "tuple" then some "tuple" else if x = "dict" then some "dict" else none
  else none
def tyNms (cc : CC) : List Expr → Option (List String)
  | [] => some []
  | .Name x _ :: es => (tyNm cc x).bind fun t => (tyNms cc es).map (t :: ·)
  | _ => none
def ownOf (cc : CC) (scope : Scope) : List (Str × Nat) := scope.names.filterMap fun y => match y.2 with
  | .local => (slotOf cc.N y.1).map fun i => (y.1, i)
  | .cell => (slotOf cc.N y.1).map fun i => (y.1, i)
  | _ => none
def tgs (f : Expr → Option (List Nat × Tg)) : List Expr → Option (List Nat × Tgs)
  | [] => some ([], aNil)
  | e :: es => if notStar e then (f e).bind fun p => (tgs f es).map fun q => (p.1 ++ q.1, aCons p.2 q.2) else none
/-- targets of frozen data -/
def tgE : Nat → CC → Expr → Option (List Nat × Tg)
  | _, cc, .Name x _ => if cc.tg x then (cc.slot .p x).map fun i => ([i], aName i) else none
  | n + 1, cc, .Tuple es _ _ => (tgs (tgE n cc) es).map fun q => (q.1, aTup es.length q.2)
  | _, _, _ => none
abbrev snds (l : List (Str × Nat)) : List Nat := l.map (·.2)
def subL (l m : List Nat) : Bool := l.all fun i => decide (i ∈ m)
def isTupE : Expr → Bool
  | .Tuple _ _ _ => true
  | _ => false
/-- the arguments of a call that changes the list of slot i, at place j -/
def ioA (C : Cs) (cc : CC) : Nat → List Expr → Option (Nat × M (List Dat))
  | 0, .Name y _ :: es => (cc.oslot y).bind fun i => (C.a cc es).map fun g => (i, cCons (cHole i) g)
  | j + 1, e :: es => if notStar e then (C.e cc e).bind fun g => (ioA C cc j es).map fun p => (p.1, cCons g p.2) else none
  | _, _ => none
def callU (C : Cs) (cc : CC) (own : Bool) (x : Str) (args : List Expr) : Option (M Dat) :=
  if glB cc.sc x && okName x && args.all notStar then
    match cc.gk x, args with
    | .fn sg φ, e :: es => if sg.own = own then match sg.io with
        | none => (C.a cc (e :: es)).map fun g => cCall φ g
        | some j => (ioA C cc j (e :: es)).map fun p => cCallIo φ p.1 j p.2
      else none
    | _, _ => none
  else none
def isRange (cc : CC) : Expr → Option (List Expr)
  | .Call (.Name x _) args [] _ => if cc.isBlt x && (x == ("range" : Str)) then some args else none
  | _ => none
def muOf (m : Str) (n : Nat) : Option (List Dat → List Dat → Option (List Dat × Dat)) :=
  if m = "append" then (if n = 1 then some uApp else none) else if m = "extend" then (if n = 1 then some uExt else none) else if m = "pop" then (if n = 0 then some uPop else if n = 1 then some uPopAt else none) else if m = "insert" then (if n = 2 then some uIns else none) else none
def mutU (C : Cs) (cc : CC) (x m : Str) (args : List Expr) (ap cp : Pos) : Option (M Dat) :=
  if (ap.endLine == cp.line) && args.all notStar && decide (args.length < 29) then (cc.oslot x).bind fun i => (muOf m args.length).bind fun u => match args with
    | [] => some (cMut i u cNil)
    | e :: es => (C.a cc (e :: es)).map fun g => cMut i u g
  else none
def dirE (C : Cs) (cc : CC) : Expr → Option (M Dat)
  | .Constant c _ _ => (constD c).map cConst
  | .Name x _ => if glB cc.sc x && okName x then (match cc.gk x with | .con d => some (cConst d) | _ => none) else (match cc.slot .p x with
      | some i => some (cVar i)
      | none => if cc.mv then (cc.slot .m x).map cMove else none)
  | .BinOp a op b _ => (opE op).bind fun h => (C.e cc a).bind fun ga => (C.e cc b).map fun gb => cBin h ga gb
  | .Compare a [op] [b] _ => if behindInMarks op b then none else (C.e cc a).bind fun ga => (C.e cc b).map fun gb => cBin (opC op) ga gb
  | .Compare a [op, op'] [b, c] _ => if lastMarks [op, op'] [b, c] then none else (C.e cc a).bind fun ga => (C.e cc b).bind fun gb => (C.e cc c).map fun gc => cChain (opC op) (opC op') ga gb gc
  | .UnaryOp .Not a _ => (C.e cc a).map cNot
  | .BoolOp .And (a :: b :: r) q => (C.e cc a).bind fun ga => (C.e cc (.BoolOp .And (b :: r) q)).map fun gb => cAnd ga gb
  | .BoolOp .Or (a :: b :: r) q => (C.e cc a).bind fun ga => (C.e cc (.BoolOp .Or (b :: r) q)).map fun gb => cOr ga gb
  | .BoolOp _ [a] _ => C.e cc a
  | .IfExp c a b _ => (C.t cc c).bind fun gc => (C.e cc a).bind fun ga => (C.e cc b).map fun gb => cIf gc ga gb
  | .Tuple es _ _ => (C.a cc es).map cTup
  | .Subscript a b _ => if notSlice b then (C.e cc a).bind fun ga => (C.e cc b).map fun gb => cBin hIx ga gb else none
  | .Call (.Name x _) args [] _ =>
    if cc.isBlt x && (x == ("isinstance" : Str)) then match args with
      | [a, .Name y _] => if notStar a then (tyNm cc y).bind fun t => (C.e cc a).map fun g => cIsi [t] g else none
      | [a, .Tuple es _ _] => if notStar a then (tyNms cc es).bind fun ts => if ts.length ≤ lineN then (C.e cc a).map fun g => cIsi ts g else none else none
      | _ => none
    else if cc.isBlt x then match bfOf x, args with
      | some b, e :: es => if (e :: es).all notStar then (C.a cc (e :: es)).map fun g => cCB (hBF b) g else none
      | _, _ => none
    else callU C cc false x args
  | .Call (.Attribute (.Name x _) m ap) args [] cp => mutU C cc x m args ap cp
  | _ => none
noncomputable def dirO (C : Cs) (cc : CC) : Expr → Option (M Dat)
  | .Name x _ => if cc.mv then (cc.slot .m x).map cMove else none
  | .BinOp a op b _ => (opO op).bind fun h => (C.e cc a).bind fun ga => (C.e cc b).map fun gb => cBin h ga gb
  | .IfExp c a b _ => (C.t cc c).bind fun gc => (C.o cc a).bind fun ga => (C.o cc b).map fun gb => cIf gc ga gb
  | .BoolOp .Or (a :: b :: r) q => (C.o cc a).bind fun ga => (C.o cc (.BoolOp .Or (b :: r) q)).map fun gb => cOr ga gb
  | .BoolOp _ [a] _ => C.o cc a
  | .List es _ => (C.a cc es).map cLst
  | .Subscript a (.Slice lo hi none _) _ => (C.e cc a).bind fun ga => (C.p cc lo).bind fun gl => (C.p cc hi).map fun gh => cSl ga gl gh
  | .ListComp elt [⟨tg, it, ifs, 0⟩] scope _ =>
    let own := ownOf cc scope
    if blkC cc.N cc.sc scope own && own.all (fun p => decide (cc.ks[p.2]? = some Kd.p)) && notSet it then
      (C.i cc tg it).bind fun gi => (tgE 4 (cc.blk scope) tg).bind fun (f : List Nat × Tg) => if subL f.1 (snds own) then
        (match ifs with | [] => some (M.pure true) | [c] => C.t (cc.blk scope) c | _ => none).bind fun t => (C.e (cc.blk scope) elt).map fun e => cLc gi f.2 t e (snds own) else none
    else none
  | .ListComp elt [⟨tg, it, ifs, 0⟩, ⟨tg1, it1, ifs1, 0⟩] scope _ =>
    let own := ownOf cc scope
    if blkC cc.N cc.sc scope own && own.all (fun p => decide (cc.ks[p.2]? = some Kd.p)) && notSet it && notSet it1 then
      (C.i cc tg it).bind fun gi => (tgE 4 (cc.blk scope) tg).bind fun (f : List Nat × Tg) => if subL f.1 (snds own) then
        (match ifs with | [] => some (M.pure true) | [c] => C.t (cc.blk scope) c | _ => none).bind fun t => (C.i (cc.blk scope) tg1 it1).bind fun gi1 => (tgE 4 (cc.blk scope) tg1).bind fun (f1 : List Nat × Tg) => if subL f1.1 (snds own) then
          (match ifs1 with | [] => some (M.pure true) | [c] => C.t (cc.blk scope) c | _ => none).bind fun t1 => (C.e (cc.blk scope) elt).map fun e => cLc2 gi f.2 t (cIn gi1 f1.2 t1 e f1.1) (snds own) else none else none
    else none
  | .Call (.Name x _) args [] _ =>
    if cc.isBlt x then match args with
      | [] => none
      | e :: es => match (if x == ("list" : Str) && es.isEmpty then isRange cc e else none) with
        | some [a] => if notStar a then (C.e cc a).map fun g => cRgL (cCons g cNil) else none
        | some [a, b] => if notStar a && notStar b then (C.e cc a).bind fun ga => (C.e cc b).map fun gb => cRgL (cCons ga (cCons gb cNil)) else none
        | some _ => none
        | none => (boOf x).bind fun b => if (e :: es).all notStar then (C.a cc (e :: es)).map fun g => cCB (hBO b) g else none
    else callU C cc true x args
  | _ => none
def notNm : Expr → Bool
  | .Name _ _ => false
  | .Constant _ _ _ => false
  | _ => true
def orElse {α : Type} (a b : Option α) : Option α := match a with
  | some x => some x
  | none => b
noncomputable def stepO (C : Cs) (cc : CC) (x : Expr) : Option (M Dat) := orElse (dirO C cc x) (if cc.own && notNm x then (dirO C cc.allP x).map cBorO else none)
noncomputable def stepE (C : Cs) (cc : CC) (x : Expr) : Option (M Dat) := orElse (dirE C cc x) (orElse (dirO C cc x) (if cc.own && notNm x then orElse ((dirO C cc.allP x).map cBorO) ((dirE C cc.allP x).map cBor) else none))
def plainT : Expr → Bool
  | .Name _ _ => true
  | .Call _ _ _ _ => true
  | .Subscript _ _ _ => true
  | .Constant _ _ _ => true
  | .BinOp _ _ _ _ => true
  | .ListComp _ _ _ _ => true
  | _ => false
def dirT (C : Cs) (cc : CC) (x : Expr) : Option (M Bool) := match x with
  | .UnaryOp .Not a _ => (C.t cc a).map bNot
  | .BoolOp op vs q => C.w cc (.BoolOp op vs q)
  | .Compare a [op] [b] _ => if behindInMarks op b then none else (C.e cc a).bind fun ga => (C.e cc b).map fun gb => bCmp (opC op) ga gb
  | .Compare a [op, op'] [b, c] _ => if lastMarks [op, op'] [b, c] then none else (C.e cc a).bind fun ga => (C.e cc b).bind fun gb => (C.e cc c).map fun gc => bVal (cChain (opC op) (opC op') ga gb gc)
  | x => if plainT x then (C.e cc x).map toB else none
def stepT (C : Cs) (cc : CC) (x : Expr) : Option (M Bool) := orElse (dirT C cc x) (if cc.own then (dirT C cc.allP x).map cBorT else none)
def stepW (C : Cs) (cc : CC) : Expr → Option (M Bool)
  | .BoolOp .And (a :: b :: r) q => (C.t cc a).bind fun ta => (C.w cc (.BoolOp .And (b :: r) q)).map fun tb => bAnd ta tb
  | .BoolOp .Or (a :: b :: r) q => (C.t cc a).bind fun ta => (C.w cc (.BoolOp .Or (b :: r) q)).map fun tb => bOr ta tb
  | .BoolOp _ [a] _ => C.t cc a
  | _ => none
def stepA (C : Cs) (cc : CC) : List Expr → Option (M (List Dat))
  | [] => some cNil
  | .Starred e _ :: es => (C.e cc e).bind fun g => (C.a cc es).map fun gs => cStar g gs
  | e :: es => if notStar e then (C.e cc e).bind fun g => (C.a cc es).map fun gs => cCons g gs else none
def iKind (cc : CC) (tg : Expr) (x : Str) (args : List Expr) : Nat :=
  if cc.isBlt x && args.all notStar then
    if x = "range" then (match args with | [_] => 1 | [_, _] => 2 | _ => 0)
    else if x = "enumerate" then (match args with | [_] => if isTupE tg then 3 else 0 | _ => 0)
    else if x = "zip" then (match args with | [_, _] => if isTupE tg then 4 else 0 | _ => 0) else 0
  else 0
def stepI (C : Cs) (cc : CC) (tg it : Expr) : Option (M (List Dat)) := match it with
  | .Call (.Name x _) args [] _ => match iKind cc tg x args with
    | 1 => (C.a cc args).map iR1
    | 2 => (C.a cc args).map iR2
    | 3 => (C.a cc args).map iEnumD
    | 4 => (C.a cc args).map iZipD
    | _ => (C.e cc it).map iE
  | it => (C.e cc it).map iE
def stepP (C : Cs) (cc : CC) : Option Expr → Option (M (Option Int))
  | none => some pNone
  | some e => (C.e cc e).map pSome
noncomputable def step (C : Cs) : Cs := ⟨stepE C, stepO C, stepT C, stepW C, stepA C, stepI C, stepP C⟩
noncomputable def comp : Nat → Cs
  | 0 => ⟨fun _ _ => none, fun _ _ => none, fun _ _ => none, fun _ _ => none, fun _ _ => none, fun _ _ _ => none, fun _ _ => none⟩
  | n + 1 => step (comp n)
end L2.PV
set_option Elab.async false
set_option linter.all false
set_option maxRecDepth 100000
set_option maxHeartbeats 4000000
namespace L2.PV
open PySem PySem.Spec PyProof.Rows
/-! ### the step is sound -/
section
variable {X : Cx} {S : Stc} {W : WX} {cc : CC} {C : Cs}
theorem ob {α β : Type} {o : Option α} {f : α → Option β} {b : β} (h : o.bind f = some b) : ∃ a, o = some a ∧ f a = some b := Option.bind_eq_some_iff.mp h
theorem om {α β : Type} {o : Option α} {f : α → β} {b : β} (h : o.map f = some b) : ∃ a, o = some a ∧ f a = b := Option.map_eq_some_iff.mp h
theorem oi {α : Type} {c : Bool} {x : Option α} {b : α} (h : (if c then x else none) = some b) : c = true ∧ x = some b := by
  cases c with
  | true => exact ⟨rfl, by simpa using h⟩
  | false => simp at h
theorem oip {α : Type} {c : Prop} [Decidable c] {x : Option α} {b : α} (h : (if c then x else none) = some b) : c ∧ x = some b := by
  by_cases hc : c
  · rw [if_pos hc] at h; exact ⟨hc, h⟩
  · rw [if_neg hc] at h; cases h
theorem oin {α : Type} {c : Bool} {x : Option α} {b : α} (h : (if c then none else x) = some b) : c = false ∧ x = some b := by
  cases c with
  | false => exact ⟨rfl, by simpa using h⟩
  | true => simp at h
theorem ebeq {x : Str} {y : String} (h : (x == (y : Str)) = true) : x = y := by simpa using h
theorem name_e (o : XOk X S W cc) {x : Str} {p : Pos} {g : M Dat} (h : dirE C cc (.Name x p) = some g) : EE X S W (.Name x p) g := by
  unfold dirE at h
  dsimp only at h
  split at h
  · rename_i hg
    rw [Bool.and_eq_true] at hg
    split at h
    · rename_i d e
      cases h
      obtain ⟨u, v, m, r, q⟩ := o.con x d e
      exact ee_glob (o.glob hg.1) m r (okName_ok hg.2).1 q
    · cases h
  · split at h
    · rename_i i e
      cases h
      obtain ⟨h1, h2, h3, h4, h5⟩ := o.slotP e
      exact ee_var h1 h2 h3 h4 h5
    · split at h
      · obtain ⟨i, e, rfl⟩ := om h
        obtain ⟨h1, h2, h3, h4, h5⟩ := o.slotP e
        exact (eo_move h1 h2 h3 h4 h5).ee
      · cases h
theorem tyNm_ok (o : XOk X S W cc) {x : Str} {t : String} (h : tyNm cc x = some t) : tyName X x t := by
  unfold tyNm at h
  obtain ⟨h1, h⟩ := oi h
  obtain ⟨g1, g2, g3, g4⟩ := o.blt h1
  refine ⟨g1, g2, ?_, g4, g3⟩
  split at h
  · rename_i e; cases h; rw [e]; decide +kernel
  split at h
  · rename_i e; cases h; rw [e]; decide +kernel
  split at h
  · rename_i e; cases h; rw [e]; decide +kernel
  split at h
  · rename_i e; cases h; rw [e]; decide +kernel
  split at h
  · rename_i e; cases h; rw [e]; decide +kernel
  split at h
  · rename_i e; cases h; rw [e]; decide +kernel
  cases h
theorem tyNms_ok (o : XOk X S W cc) : ∀ {es : List Expr} {ts : List String}, tyNms cc es = some ts → TyNames X es ts
  | [], _, h => by cases h; exact .nil
  | e :: es, ts, h => by
    unfold tyNms at h
    split at h
    · rename_i e2; cases e2
    · rename_i x p es' e2
      cases e2
      obtain ⟨t, h1, h2⟩ := ob h
      obtain ⟨ts', h3, rfl⟩ := om h2
      exact .cons (tyNm_ok o h1) (tyNms_ok o h3)
    · cases h
theorem callU_arg (hC : Snd C) (o : XOk X S W cc) : ∀ {j : Nat} {es : List Expr} {p : Nat × M (List Dat)}, ioA C cc j es = some p → ownK S p.1 ∧ EAi X S W p.1 j es p.2
  | 0, [], p, h => by cases h
  | 0, e :: es, p, h => by
    unfold ioA at h
    split at h
    · rename_i y q es' e1 e2
      cases e2
      obtain ⟨i, h1, h2⟩ := ob h
      obtain ⟨g, h3, rfl⟩ := om h2
      obtain ⟨s1, s2, s3, s4, s5⟩ := o.slotO h1
      exact ⟨s3, eai_here s1 s2 s4 s5 s3 (hC.a o h3) (star_cons rfl)⟩
    · rename_i e1 e2; cases e1
    · cases h
  | j + 1, [], p, h => by cases h
  | j + 1, e :: es, p, h => by
    unfold ioA at h
    obtain ⟨h0, h⟩ := oi h
    obtain ⟨g, h1, h2⟩ := ob h
    obtain ⟨q, h3, rfl⟩ := om h2
    obtain ⟨k, r⟩ := callU_arg hC o h3
    exact ⟨k, eai_there (hC.e o h1) r (star_cons h0)⟩
theorem callU_e (hC : Snd C) (o : XOk X S W cc) {x : Str} {p pos : Pos} {args : List Expr} {g : M Dat} (h : callU C cc false x args = some g) : EE X S W (.Call (.Name x p) args [] pos) g := by
  unfold callU at h
  obtain ⟨hg, h⟩ := oi h
  simp only [Bool.and_eq_true] at hg
  obtain ⟨⟨h1, h2⟩, h3⟩ := hg
  split at h
  · rename_i sg φ e es hf _
    obtain ⟨ho, h⟩ := oip h
    obtain ⟨k, f, fd, ps, F, hr, hm, hk, hb, hl⟩ := o.fn x sg φ hf
    rw [List.all_cons, Bool.and_eq_true] at h3
    split at h
    · rename_i hio
      obtain ⟨gs, h4, rfl⟩ := om h
      exact ee_call F hr (o.glob h1) hm hk hb o.tk hio ho hl (hC.a o h4) (okName_ok h2).1 (star_cons h3.1) (back_any h3.2)
    · rename_i j hio
      obtain ⟨q, h4, rfl⟩ := om h
      obtain ⟨kk, r⟩ := callU_arg hC o h4
      exact ee_callIo F hr (o.glob h1) hm hk hb o.tk hio kk ho hl r (okName_ok h2).1 (star_cons h3.1) (back_any h3.2)
  · cases h
theorem callU_o (hC : Snd C) (o : XOk X S W cc) {x : Str} {p pos : Pos} {args : List Expr} {g : M Dat} (h : callU C cc true x args = some g) : EO X S W (.Call (.Name x p) args [] pos) g := by
  unfold callU at h
  obtain ⟨hg, h⟩ := oi h
  simp only [Bool.and_eq_true] at hg
  obtain ⟨⟨h1, h2⟩, h3⟩ := hg
  split at h
  · rename_i sg φ e es hf _
    obtain ⟨ho, h⟩ := oip h
    obtain ⟨k, f, fd, ps, F, hr, hm, hk, hb, hl⟩ := o.fn x sg φ hf
    rw [List.all_cons, Bool.and_eq_true] at h3
    split at h
    · rename_i hio
      obtain ⟨gs, h4, rfl⟩ := om h
      exact eo_call F hr (o.glob h1) hm hk hb o.tk hio ho hl (hC.a o h4) (okName_ok h2).1 (star_cons h3.1) (back_any h3.2)
    · rename_i j hio
      obtain ⟨q, h4, rfl⟩ := om h
      obtain ⟨kk, r⟩ := callU_arg hC o h4
      exact eo_callIo F hr (o.glob h1) hm hk hb o.tk hio kk ho hl r (okName_ok h2).1 (star_cons h3.1) (back_any h3.2)
  · cases h
theorem mu_ok {m : Str} {n : Nat} {u : List Dat → List Dat → Option (List Dat × Dat)} (h : muOf m n = some u) : ∃ id r, Slot "list" m id ∧ typeOf (.builtin id) = pure (.type "method_descriptor") ∧ MtR X id r ∧ MutR S r u := by
  unfold muOf at h
  split at h
  · rename_i e
    split at h
    · cases h; subst e; exact ⟨_, _, PySem.F.slot_list_append, PySem.F.type_list_append, mt_append, muApp⟩
    · cases h
  split at h
  · rename_i e
    split at h
    · cases h; subst e; exact ⟨_, _, PySem.F.slot_list_extend, PySem.F.type_list_extend, mt_extend, muExt⟩
    · cases h
  split at h
  · rename_i e
    split at h
    · cases h; subst e; exact ⟨_, _, PySem.F.slot_list_pop, PySem.F.type_list_pop, mt_pop, muPop⟩
    · split at h
      · cases h; subst e; exact ⟨_, _, PySem.F.slot_list_pop, PySem.F.type_list_pop, mt_popAt, muPopAt⟩
      · cases h
  split at h
  · rename_i e
    split at h
    · cases h; subst e; exact ⟨_, _, PySem.F.slot_list_insert, PySem.F.type_list_insert, mt_insert, muIns⟩
    · cases h
  cases h
theorem mutU_ok (hC : Snd C) (o : XOk X S W cc) {x m : Str} {xp ap cp : Pos} {args : List Expr} {g : M Dat} (h : mutU C cc x m args ap cp = some g) : EE X S W (.Call (.Attribute (.Name x xp) m ap) args [] cp) g := by
  unfold mutU at h
  obtain ⟨h0, h⟩ := oi h
  simp only [Bool.and_eq_true, decide_eq_true_eq] at h0
  obtain ⟨⟨h1, h2⟩, h3⟩ := h0
  obtain ⟨i, h4, h⟩ := ob h
  obtain ⟨u, h5, h⟩ := ob h
  obtain ⟨s1, s2, s3, s4, s5⟩ := o.slotO h4
  obtain ⟨id, r, m1, m2, m3, m4⟩ := mu_ok (X := X) (S := S) h5
  cases args with
  | nil =>
    cases h
    exact ee_mut0 o.hK s1 s2 s3 s4 s5 m1 m2 m3 m4 rfl h1
  | cons e es =>
    obtain ⟨gs, h6, rfl⟩ := om h
    have h2' := h2
    rw [List.all_cons, Bool.and_eq_true] at h2'
    refine ee_mut o.hK s1 s2 s3 s4 s5 m1 m2 m3 m4 (hC.a o h6) rfl ?_ h1 (star_cons h2'.1) (back_any h2'.2)
    rw [back_all h2]
    show (true && true && decide ((e :: es).length + 0 + 0 < 30)) = true
    have : (e :: es).length + 0 + 0 < 30 := by omega
    rw [decide_eq_true this]
    rfl
theorem dirE_ok (hC : Snd C) (o : XOk X S W cc) {x : Expr} {g : M Dat} (h : dirE C cc x = some g) : EE X S W x g := by
  have hK := o.hK
  have hu := o.un
  cases x with
  | Name x p => exact name_e o h
  | Constant c k p =>
    unfold dirE at h
    obtain ⟨d, h1, rfl⟩ := om h
    cases c with
    | none => cases h1; exact ee_non
    | bool b => cases h1; exact ee_bl
    | int b => cases h1; exact ee_int
    | str b => cases h1; exact ee_str
    | _ => cases h1
  | BinOp a op b p =>
    unfold dirE at h
    obtain ⟨f, h1, h⟩ := ob h
    obtain ⟨ga, h2, h⟩ := ob h
    obtain ⟨gb, h3, rfl⟩ := om h
    obtain ⟨r, e1, e2⟩ := opE_ok (X := X) (S := S) h1
    exact ee_bin e1 e2 (hC.e o h2) (hC.e o h3)
  | Compare a ops bs p =>
    unfold dirE at h
    split at h
    all_goals first | cases h; done | skip
    all_goals (rename_i e1; cases e1)
    · obtain ⟨h0, h⟩ := oin h
      obtain ⟨ga, h2, h⟩ := ob h
      obtain ⟨gb, h3, rfl⟩ := om h
      obtain ⟨r, e1, e2⟩ := opC_ok (X := X) (S := S) _ hK hu
      exact ee_cmp e1 e2 (hC.e o h2) (hC.e o h3) h0
    · obtain ⟨h0, h⟩ := oin h
      obtain ⟨ga, h2, h⟩ := ob h
      obtain ⟨gb, h3, h⟩ := ob h
      obtain ⟨gc, h4, rfl⟩ := om h
      obtain ⟨r, e1, e2⟩ := opC_ok (X := X) (S := S) _ hK hu
      obtain ⟨r', e3, e4⟩ := opC_ok (X := X) (S := S) _ hK hu
      exact ee_chain e1 e2 e3 e4 (hC.e o h2) (hC.e o h3) (hC.e o h4) h0
  | UnaryOp op a p =>
    cases op with
    | Not =>
      unfold dirE at h
      obtain ⟨ga, h2, rfl⟩ := om h
      exact ee_not hK (hC.e o h2)
    | _ => cases h
  | BoolOp op vs p =>
    unfold dirE at h
    split at h
    all_goals first | cases h; done | skip
    all_goals (rename_i e1; cases e1)
    · obtain ⟨ga, h2, h⟩ := ob h
      obtain ⟨gb, h3, rfl⟩ := om h
      exact ee_and hK (hC.e o h2) (hC.e o h3)
    · obtain ⟨ga, h2, h⟩ := ob h
      obtain ⟨gb, h3, rfl⟩ := om h
      exact ee_or hK (hC.e o h2) (hC.e o h3)
    · exact ee_bone (hC.e o h)
  | IfExp c a b p =>
    unfold dirE at h
    obtain ⟨gc, h1, h⟩ := ob h
    obtain ⟨ga, h2, h⟩ := ob h
    obtain ⟨gb, h3, rfl⟩ := om h
    exact ee_if (hC.t o h1) (hC.e o h2) (hC.e o h3)
  | Tuple es k p =>
    unfold dirE at h
    obtain ⟨ga, h2, rfl⟩ := om h
    exact ee_tup (hC.a o h2)
  | Subscript a b p =>
    unfold dirE at h
    obtain ⟨h0, h⟩ := oi h
    obtain ⟨ga, h2, h⟩ := ob h
    obtain ⟨gb, h3, rfl⟩ := om h
    exact ee_ix hK (hC.e o h2) (hC.e o h3) (plainIx_ok h0)
  | Call f args kws p =>
    unfold dirE at h
    split at h
    all_goals first | cases h; done | skip
    all_goals (rename_i e1; cases e1)
    rotate_left
    · exact mutU_ok hC o h
    split at h
    · rename_i hb
      rw [Bool.and_eq_true] at hb
      have ex := ebeq hb.2
      subst ex
      obtain ⟨g1, g2, g3, g4⟩ := o.blt hb.1
      split at h
      · rename_i a y q
        obtain ⟨h0, h⟩ := oi h
        obtain ⟨t, h1, h⟩ := ob h
        obtain ⟨ga, h2, rfl⟩ := om h
        exact ee_isi1 hK g1 g2 (tyNm_ok o h1) (hC.e o h2) (star_cons h0)
      · rename_i a es q1 q2
        obtain ⟨h0, h⟩ := oi h
        obtain ⟨ts, h1, h⟩ := ob h
        obtain ⟨hl, h⟩ := oip h
        obtain ⟨ga, h2, rfl⟩ := om h
        exact ee_isiT hK g1 g2 (tyNms_ok o h1) hl (hC.e o h2) (star_cons h0)
      · cases h
    · split at h
      · rename_i hb
        split at h
        · rename_i b e es hbf
          obtain ⟨h0, h⟩ := oi h
          obtain ⟨ga, h2, rfl⟩ := om h
          exact ee_bf o hbf hb h0 (hC.a o h2)
        · cases h
      · exact callU_e hC o h
  | _ => cases h
theorem tgs_ok {f : Expr → Option (List Nat × Tg)} (hf : ∀ e p, f e = some p → EG X S e p.1 p.2) : ∀ {es : List Expr} {q : List Nat × Tgs}, tgs f es = some q → EGs X S es q.1 q.2 ∧ es.all notStar = true
  | [], q, h => by cases h; exact ⟨egs_nil, rfl⟩
  | e :: es, q, h => by
    unfold tgs at h
    obtain ⟨h0, h⟩ := oi h
    obtain ⟨p, h1, h⟩ := ob h
    obtain ⟨q', h2, rfl⟩ := om h
    obtain ⟨r1, r2⟩ := tgs_ok hf h2
    exact ⟨egs_cons (hf e p h1) r1 (by rw [assignEach_cons h0]; rfl), by rw [List.all_cons, h0, r2]; rfl⟩
theorem tgE_ok (o : XOk X S W cc) : ∀ {n : Nat} {e : Expr} {p : List Nat × Tg}, tgE n cc e = some p → EG X S e p.1 p.2 := by
  intro n
  induction n with
  | zero =>
    intro e p h
    cases e with
    | Name x q =>
      unfold tgE at h
      obtain ⟨h0, h⟩ := oi h
      obtain ⟨i, h1, rfl⟩ := om h
      obtain ⟨s1, s2, s3, s4, s5⟩ := o.slotP h1
      obtain ⟨t1, t2⟩ := o.tg x h0
      exact eg_name o.nd s1 t1 t2 s3
    | _ => cases h
  | succ n ih =>
    intro e p h
    cases e with
    | Name x q =>
      unfold tgE at h
      obtain ⟨h0, h⟩ := oi h
      obtain ⟨i, h1, rfl⟩ := om h
      obtain ⟨s1, s2, s3, s4, s5⟩ := o.slotP h1
      obtain ⟨t1, t2⟩ := o.tg x h0
      exact eg_name o.nd s1 t1 t2 s3
    | Tuple es k q =>
      unfold tgE at h
      obtain ⟨i, h1, rfl⟩ := om h
      obtain ⟨r1, r2⟩ := tgs_ok (fun e p he => ih he) h1
      exact eg_tup o.hK o.calm r1 (assignEach_len r2) (assignEach_find r2)
    | _ => cases h
theorem subL_ok {l m : List Nat} (h : subL l m = true) : ∀ i ∈ l, i ∈ m := fun i hi => by
  have := List.all_eq_true.mp h i hi
  simpa using this
theorem ifs_ok (hC : Snd C) (o : XOk X S W cc) {ifs : List Expr} {t : M Bool} (h : (match ifs with | [] => some (M.pure true) | [c] => C.t cc c | _ => none) = some t) : ETs X S W ifs t := by
  split at h
  · cases h; exact ets_nil
  · exact ets_one (hC.t o h)
  · cases h
theorem isRange_ok {e : Expr} {args : List Expr} (h : isRange cc e = some args) : ∃ p pos, e = .Call (.Name "range" p) args [] pos ∧ cc.isBlt "range" = true := by
  unfold isRange at h
  split at h
  · obtain ⟨c2, h'⟩ := oi h
    rw [Bool.and_eq_true] at c2
    have ey := ebeq c2.2
    injection h' with h''
    subst h''
    clear h
    subst ey
    exact ⟨_, _, rfl, c2.1⟩
  · cases h
theorem dirO_ok (hC : Snd C) (o : XOk X S W cc) {x : Expr} {g : M Dat} (h : dirO C cc x = some g) : EO X S W x g := by
  have hK := o.hK
  have hu := o.un
  cases x with
  | Name x p =>
    unfold dirO at h
    obtain ⟨h0, h⟩ := oi h
    obtain ⟨i, e, rfl⟩ := om h
    obtain ⟨h1, h2, h3, h4, h5⟩ := o.slotP e
    exact eo_move h1 h2 h3 h4 h5
  | BinOp a op b p =>
    unfold dirO at h
    obtain ⟨f, h1, h⟩ := ob h
    obtain ⟨ga, h2, h⟩ := ob h
    obtain ⟨gb, h3, rfl⟩ := om h
    obtain ⟨r, e1, e2⟩ := opO_ok (X := X) (S := S) hK h1
    exact eo_bin e1 e2 (hC.e o h2) (hC.e o h3)
  | IfExp c a b p =>
    unfold dirO at h
    obtain ⟨gc, h1, h⟩ := ob h
    obtain ⟨ga, h2, h⟩ := ob h
    obtain ⟨gb, h3, rfl⟩ := om h
    exact eo_if (hC.t o h1) (hC.o o h2) (hC.o o h3)
  | BoolOp op vs p =>
    unfold dirO at h
    split at h
    all_goals first | cases h; done | skip
    all_goals (rename_i e1; cases e1)
    · obtain ⟨ga, h2, h⟩ := ob h
      obtain ⟨gb, h3, rfl⟩ := om h
      exact eo_or hK (hC.o o h2) (hC.o o h3)
    · exact eo_bone (hC.o o h)
  | List es p =>
    unfold dirO at h
    obtain ⟨ga, h2, rfl⟩ := om h
    exact eo_lst (hC.a o h2)
  | Subscript a b p =>
    unfold dirO at h
    split at h
    all_goals first | cases h; done | skip
    all_goals (rename_i e1; cases e1)
    obtain ⟨ga, h2, h⟩ := ob h
    obtain ⟨gl, h3, h⟩ := ob h
    obtain ⟨gh, h4, rfl⟩ := om h
    exact eo_slice hK (hC.e o h2) (hC.p o h3) (hC.p o h4)
  | ListComp elt gs scope p =>
    unfold dirO at h
    split at h
    all_goals first | cases h; done | skip
    all_goals (rename_i e1; cases e1)
    · rename_i tg it ifs
      dsimp only at h
      obtain ⟨h0, h⟩ := oi h
      simp only [Bool.and_eq_true] at h0
      obtain ⟨⟨b1, b2⟩, b3⟩ := h0
      obtain ⟨gi, h1, h⟩ := ob h
      obtain ⟨f, h2, h⟩ := ob h
      obtain ⟨b4, h⟩ := oi h
      obtain ⟨t, h3, h⟩ := ob h
      obtain ⟨e, h4, rfl⟩ := om h
      have ok := blkOk_by b1
      rw [← o.hN, ← o.sc] at ok
      refine eo_lc o.calm o.nd (hC.i o h1) ok (fun v hv => ?_) (subL_ok b4) (fun s H Cc cl fp => tgE_ok (o.blk s H Cc cl fp) h2) (fun s H Cc cl fp => ifs_ok hC (o.blk s H Cc cl fp) h3) (fun s H Cc cl fp => hC.e (o.blk s H Cc cl fp) h4) (folded_ok b3 _)
      obtain ⟨q, hq, rfl⟩ := List.mem_map.mp hv
      rw [o.ks]
      exact of_decide_eq_true (List.all_eq_true.mp b2 q hq)
    · rename_i tg it ifs tg1 it1 ifs1
      dsimp only at h
      obtain ⟨h0, h⟩ := oi h
      simp only [Bool.and_eq_true] at h0
      obtain ⟨⟨⟨b1, b2⟩, b3⟩, b33⟩ := h0
      obtain ⟨gi, h1, h⟩ := ob h
      obtain ⟨f, h2, h⟩ := ob h
      obtain ⟨b4, h⟩ := oi h
      obtain ⟨t, h3, h⟩ := ob h
      obtain ⟨gi1, h5, h⟩ := ob h
      obtain ⟨f1, h6, h⟩ := ob h
      obtain ⟨b5, h⟩ := oi h
      obtain ⟨t1, h7, h⟩ := ob h
      obtain ⟨e, h4, rfl⟩ := om h
      have ok := blkOk_by b1
      rw [← o.hN, ← o.sc] at ok
      refine eo_lc2 o.calm o.nd (hC.i o h1) ok (subL_ok b5) (fun v hv => ?_) (subL_ok b4) (fun i hi => hi) (fun s H Cc cl fp => tgE_ok (o.blk s H Cc cl fp) h2) (fun s H Cc cl fp => ifs_ok hC (o.blk s H Cc cl fp) h3)
        (fun s H Cc cl fp => hC.i (o.blk s H Cc cl fp) h5) (fun s H Cc cl fp => tgE_ok (o.blk s H Cc cl fp) h6) (fun s H Cc cl fp => ifs_ok hC (o.blk s H Cc cl fp) h7) (fun s H Cc cl fp => hC.e (o.blk s H Cc cl fp) h4) (folded_ok b3 _) (folded_ok b33)
      obtain ⟨q, hq, rfl⟩ := List.mem_map.mp hv
      rw [o.ks]
      exact of_decide_eq_true (List.all_eq_true.mp b2 q hq)
  | Call f args kws p =>
    unfold dirO at h
    split at h
    all_goals first | cases h; done | skip
    all_goals (rename_i e1; cases e1)
    split at h
    · rename_i hb
      split at h
      · cases h
      · rename_i e es
        split at h
        · rename_i a hr
          obtain ⟨c1, hr⟩ := oi hr
          rw [Bool.and_eq_true] at c1
          have ex := ebeq c1.1
          subst ex
          have en : es = [] := by simpa using c1.2
          subst en
          obtain ⟨py, py2, ey, c2⟩ := isRange_ok hr
          subst ey
          · 
            obtain ⟨g1, g2, _, _⟩ := o.blt hb
            obtain ⟨k1, k2, _, _⟩ := o.blt c2
            obtain ⟨h0, h⟩ := oi h
            obtain ⟨ga, h2, rfl⟩ := om h
            exact eo_rg1 o.calm g1 g2 k1 k2 (hC.e o h2) (star_cons h0)
        · rename_i a b hr
          obtain ⟨c1, hr⟩ := oi hr
          rw [Bool.and_eq_true] at c1
          have ex := ebeq c1.1
          subst ex
          have en : es = [] := by simpa using c1.2
          subst en
          obtain ⟨py, py2, ey, c2⟩ := isRange_ok hr
          subst ey
          · 
            obtain ⟨g1, g2, _, _⟩ := o.blt hb
            obtain ⟨k1, k2, _, _⟩ := o.blt c2
            obtain ⟨h0, h⟩ := oi h
            rw [Bool.and_eq_true] at h0
            obtain ⟨ga, h2, h⟩ := ob h
            obtain ⟨gb, h3, rfl⟩ := om h
            exact eo_rg2 o.calm g1 g2 k1 k2 (hC.e o h2) (hC.e o h3) (star_cons h0.1) (star_cons h0.2) (back_any (by rw [List.all_cons, h0.2]; rfl))
        · cases h
        · obtain ⟨b, h1, h⟩ := ob h
          obtain ⟨h0, h⟩ := oi h
          obtain ⟨ga, h2, rfl⟩ := om h
          exact eo_bo o h1 hb h0 (hC.a o h2)
    · exact callU_o hC o h
  | _ => cases h
theorem orE_some {α : Type} {a b : Option α} {x : α} (h : orElse a b = some x) : a = some x ∨ b = some x := by
  unfold orElse at h
  cases a with
  | none => exact .inr h
  | some y => exact .inl h
theorem stepO_ok (hC : Snd C) (o : XOk X S W cc) {x : Expr} {g : M Dat} (h : stepO C cc x = some g) : EO X S W x g := by
  unfold stepO at h
  rcases orE_some h with h | h
  · exact dirO_ok hC o h
  · obtain ⟨_, h⟩ := oi h
    obtain ⟨g', h1, rfl⟩ := om h
    exact eo_bor (dirO_ok hC o.allP h1)
theorem stepE_ok (hC : Snd C) (o : XOk X S W cc) {x : Expr} {g : M Dat} (h : stepE C cc x = some g) : EE X S W x g := by
  unfold stepE at h
  rcases orE_some h with h | h
  · exact dirE_ok hC o h
  rcases orE_some h with h | h
  · exact (dirO_ok hC o h).ee
  · obtain ⟨_, h⟩ := oi h
    rcases orE_some h with h | h
    · obtain ⟨g', h1, rfl⟩ := om h
      exact (eo_bor (dirO_ok hC o.allP h1)).ee
    · obtain ⟨g', h1, rfl⟩ := om h
      exact ee_bor (dirE_ok hC o.allP h1)
theorem plainT_ok {e : Expr} (h : plainT e = true) (env : PySem.Env) : ∀ whole, isTrue e env whole = (do let v ← whole; standAt e.pos; holding [v] (truthy v)) := fun whole => by
  cases e <;> first | rfl | cases h
theorem dirT_ok (hC : Snd C) (o : XOk X S W cc) {x : Expr} {g : M Bool} (h : dirT C cc x = some g) : ET X S W x g := by
  have hK := o.hK
  have hu := o.un
  unfold dirT at h
  split at h
  · obtain ⟨ga, h2, rfl⟩ := om h
    exact et_not (hC.t o h2)
  · exact (hC.w o h).et
  · obtain ⟨h0, h⟩ := oin h
    obtain ⟨ga, h2, h⟩ := ob h
    obtain ⟨gb, h3, rfl⟩ := om h
    obtain ⟨r, e1, e2⟩ := opC_ok (X := X) (S := S) _ hK hu
    exact et_cmp e1 e2 (hC.e o h2) (hC.e o h3) h0
  · obtain ⟨h0, h⟩ := oin h
    obtain ⟨ga, h2, h⟩ := ob h
    obtain ⟨gb, h3, h⟩ := ob h
    obtain ⟨gc, h4, rfl⟩ := om h
    obtain ⟨r, e1, e2⟩ := opC_ok (X := X) (S := S) _ hK hu
    obtain ⟨r', e3, e4⟩ := opC_ok (X := X) (S := S) _ hK hu
    exact et_chain e1 e2 e3 e4 (hC.e o h2) (hC.e o h3) (hC.e o h4) h0
  · obtain ⟨h0, h⟩ := oi h
    obtain ⟨ga, h2, rfl⟩ := om h
    exact et_truth hK (hC.e o h2) (plainT_ok h0 _)
theorem stepT_ok (hC : Snd C) (o : XOk X S W cc) {x : Expr} {g : M Bool} (h : stepT C cc x = some g) : ET X S W x g := by
  unfold stepT at h
  rcases orE_some h with h | h
  · exact dirT_ok hC o h
  · obtain ⟨_, h⟩ := oi h
    obtain ⟨g', h1, rfl⟩ := om h
    exact et_bor (dirT_ok hC o.allP h1)
theorem stepW_ok (hC : Snd C) (o : XOk X S W cc) {x : Expr} {g : M Bool} (h : stepW C cc x = some g) : EW X S W x g := by
  unfold stepW at h
  split at h
  · obtain ⟨ga, h2, h⟩ := ob h
    obtain ⟨gb, h3, rfl⟩ := om h
    exact ew_and (hC.t o h2) (hC.w o h3)
  · obtain ⟨ga, h2, h⟩ := ob h
    obtain ⟨gb, h3, rfl⟩ := om h
    exact ew_or (hC.t o h2) (hC.w o h3)
  · exact ew_one (hC.t o h)
  · cases h
theorem stepA_ok (hC : Snd C) (o : XOk X S W cc) {x : List Expr} {g : M (List Dat)} (h : stepA C cc x = some g) : EA X S W x g := by
  unfold stepA at h
  split at h
  · cases h; exact ea_nil
  · obtain ⟨ga, h2, h⟩ := ob h
    obtain ⟨gb, h3, rfl⟩ := om h
    exact ea_star o.hK (hC.e o h2) (hC.a o h3) star_star
  · obtain ⟨h0, h⟩ := oi h
    obtain ⟨ga, h2, h⟩ := ob h
    obtain ⟨gb, h3, rfl⟩ := om h
    exact ea_cons (hC.e o h2) (hC.a o h3) (star_cons h0)
theorem stepP_ok (hC : Snd C) (o : XOk X S W cc) {x : Option Expr} {g : M (Option Int)} (h : stepP C cc x = some g) : EP' X S W x g := by
  unfold stepP at h
  split at h
  · cases h; exact ep_none
  · obtain ⟨ga, h2, rfl⟩ := om h
    exact ep_some (hC.e o h2)
theorem isTup_ex {tg : Expr} (h : isTupE tg = true) : ∃ es k p, tg = .Tuple es k p := by
  cases tg <;> first | cases h; done | exact ⟨_, _, _, rfl⟩
theorem iKind_ok {tg : Expr} {x : Str} {args : List Expr} {k : Nat} (h : iKind cc tg x args = k) (hk : k ≠ 0) : cc.isBlt x = true ∧ args.all notStar = true ∧
    ((k = 1 ∧ x = "range" ∧ ∃ a, args = [a]) ∨ (k = 2 ∧ x = "range" ∧ ∃ a b, args = [a, b]) ∨ (k = 3 ∧ x = "enumerate" ∧ isTupE tg = true ∧ ∃ a, args = [a]) ∨ (k = 4 ∧ x = "zip" ∧ isTupE tg = true ∧ ∃ a b, args = [a, b])) := by
  unfold iKind at h
  split at h
  · rename_i hb
    rw [Bool.and_eq_true] at hb
    refine ⟨hb.1, hb.2, ?_⟩
    split at h
    · rename_i ex
      split at h
      · exact .inl ⟨h.symm, ex, _, rfl⟩
      · exact .inr (.inl ⟨h.symm, ex, _, _, rfl⟩)
      · exact absurd h.symm hk
    · split at h
      · rename_i ex
        split at h
        · split at h
          · rename_i ht; exact .inr (.inr (.inl ⟨h.symm, ex, ht, _, rfl⟩))
          · exact absurd h.symm hk
        · exact absurd h.symm hk
      · split at h
        · rename_i ex
          split at h
          · split at h
            · rename_i ht; exact .inr (.inr (.inr ⟨h.symm, ex, ht, _, _, rfl⟩))
            · exact absurd h.symm hk
          · exact absurd h.symm hk
        · exact absurd h.symm hk
  · exact absurd h.symm hk
theorem stepI_ok (hC : Snd C) (o : XOk X S W cc) {tg x : Expr} {g : M (List Dat)} (h : stepI C cc tg x = some g) : EI X S W tg x g := by
  unfold stepI at h
  split at h
  · rename_i x p args pos
    split at h
    · rename_i hk
      obtain ⟨k1, k2, k3⟩ := iKind_ok hk (by decide)
      obtain ⟨g1, g2, g3, g4⟩ := o.blt k1
      obtain ⟨gs, h2, rfl⟩ := om h
      rcases k3 with ⟨z, rfl, a, rfl⟩ | ⟨z, _⟩ | ⟨z, _⟩ | ⟨z, _⟩ <;> try (cases z; done)
      exact ei_range1 g1 g2 (hC.a o h2) (star_cons (by simpa using k2))
    · rename_i hk
      obtain ⟨k1, k2, k3⟩ := iKind_ok hk (by decide)
      obtain ⟨g1, g2, g3, g4⟩ := o.blt k1
      obtain ⟨gs, h2, rfl⟩ := om h
      rcases k3 with ⟨z, _⟩ | ⟨z, rfl, a, b, rfl⟩ | ⟨z, _⟩ | ⟨z, _⟩ <;> try (cases z; done)
      have k2 : notStar a = true ∧ notStar b = true := by simpa using k2
      exact ei_range2 g1 g2 (hC.a o h2) (by rw [star_cons k2.1, star_cons k2.2]; rfl) (star_cons k2.2)
    · rename_i hk
      obtain ⟨k1, k2, k3⟩ := iKind_ok hk (by decide)
      obtain ⟨g1, g2, g3, g4⟩ := o.blt k1
      obtain ⟨gs, h2, rfl⟩ := om h
      rcases k3 with ⟨z, _⟩ | ⟨z, _⟩ | ⟨z, rfl, ht, a, rfl⟩ | ⟨z, _⟩ <;> try (cases z; done)
      obtain ⟨es, k, q, rfl⟩ := isTup_ex ht
      exact ei_enum o.hK g1 g2 (hC.a o h2) (star_cons (by simpa using k2))
    · rename_i hk
      obtain ⟨k1, k2, k3⟩ := iKind_ok hk (by decide)
      obtain ⟨g1, g2, g3, g4⟩ := o.blt k1
      obtain ⟨gs, h2, rfl⟩ := om h
      rcases k3 with ⟨z, _⟩ | ⟨z, _⟩ | ⟨z, _⟩ | ⟨z, rfl, ht, a, b, rfl⟩ <;> try (cases z; done)
      obtain ⟨es, k, q, rfl⟩ := isTup_ex ht
      have k2' : notStar a = true ∧ notStar b = true := by simpa using k2
      exact ei_zip o.hK g1 g2 (hC.a o h2) (star_cons k2'.1) (back_any (by rw [List.all_cons, k2'.2]; rfl))
    · obtain ⟨gs, h2, rfl⟩ := om h
      exact ei_seq o.hK (hC.e o h2)
  · obtain ⟨gs, h2, rfl⟩ := om h
    exact ei_seq o.hK (hC.e o h2)
end
theorem step_ok {C : Cs} (hC : Snd C) : Snd (step C) := ⟨fun o h => stepE_ok hC o h, fun o h => stepO_ok hC o h, fun o h => stepT_ok hC o h, fun o h => stepW_ok hC o h, fun o h => stepA_ok hC o h, fun o h => stepI_ok hC o h, fun o h => stepP_ok hC o h⟩
theorem comp_ok : ∀ n : Nat, Snd (comp n)
  | 0 => ⟨fun _ h => (nomatch h), fun _ h => (nomatch h), fun _ h => (nomatch h), fun _ h => (nomatch h), fun _ h => (nomatch h), fun _ h => (nomatch h), fun _ h => (nomatch h)⟩
  | n + 1 => step_ok (comp_ok n)
end L2.PV
set_option Elab.async false
set_option linter.all false
set_option maxRecDepth 100000
set_option maxHeartbeats 4000000
namespace L2.PV
open PySem PySem.Spec PyProof.Rows
/-! ### the meaning of statements -/
structure XOkS (X : Cx) (S : Stc) (W : WX) (cc : CC) : Prop extends XOk X S W cc where
  po : PassesOwn (model X.prog X.w) X.A X.env X.xe
  kd : cc.sc.kind = .function
abbrev CC.mvc (cc : CC) (b : Bool) : CC := { cc with mv := b }
def isNm : Expr → Bool
  | .Name _ _ => true
  | _ => false
def locB (sc : Scope) (x : Str) : Bool := match sc.names.lookup x with
  | some .local => true
  | _ => false
theorem locB_ok {sc : Scope} {x : Str} (h : locB sc x = true) : sc.names.lookup x = some .local := by
  unfold locB at h
  split at h
  · assumption
  · cases h
/-- name = [..] that is stored while the block's own names are let go -/
def swB (sc : Scope) (t : Str) (tp : Pos) : Expr → Option Bool
  | .ListComp _ _ scope pos => some (sc.names.lookup t == some .local && tp.line == pos.line && !(scope.names.any fun (n, k) => n == t && (k == .local || k == .cell)))
  | .SetComp _ _ _ _ => none
  | .DictComp _ _ _ _ _ => none
  | _ => some false
def isTupOrLst : Expr → Bool
  | .Tuple _ _ _ => true
  | .List _ _ => true
  | _ => false
/-- how a, b = .., .. is stored -/
def swM (sc : Scope) (ts vs : List Expr) : Option (Option (List Str)) :=
  if !(ts.length == 2 || ts.length == 3) || vs.length != ts.length then some none
  else if vs.any (fun | .Starred .. => true | _ => false) then some none
  else
    let line := (ts.head?.map (·.pos.line)).getD 0
    let names := ts.filterMap fun
      | .Name id pos => if sc.names.lookup id == some .local && pos.line == line then some id else none
      | _ => none
    if names.length != ts.length || names.eraseDups.length != names.length then some none
    else if vs.all (foldedForSure 8) then some none
    else if vs.all (constantsAlone 8) then none
    else some (some names)
/-- the slots of plain names, and which of them hold lists of their own -/
def nmSlots (cc : CC) : List Expr → Option (List Nat × List Bool)
  | [] => some ([], [])
  | .Name x _ :: es => if cc.tg x then (nmSlots cc es).bind fun r => match cc.slot .p x with
      | some i => some (i :: r.1, false :: r.2)
      | none => (cc.slot .m x).map fun i => (i :: r.1, true :: r.2)
    else none
  | _ => none
def parA (C : Cs) (cc : CC) : List Bool → List Expr → Option (M (List Dat))
  | [], [] => some cNil
  | false :: fl, e :: es => if notStar e then (C.e cc e).bind fun g => (parA C cc fl es).map fun gs => cCons g gs else none
  | true :: fl, e :: es => if notStar e then (C.o cc e).bind fun g => (parA C cc fl es).map fun gs => cCons g gs else none
  | _, _ => none
def whFuel : Nat := 1073741824
noncomputable def asgS (C : Cs) (cc : CC) (x : Str) (xp : Pos) (e : Expr) : Option MS :=
  if cc.tg x then (swB cc.sc x xp e).bind fun sw => match cc.slot .p x, cc.slot .m x with
    | some i, _ => if sw then orElse ((dirO C cc e).map fun g => sAsg g (aName i)) (if cc.own then (dirO C cc.allP e).map fun g => sAsg (cBorO g) (aName i) else none) else (C.e cc e).map fun g => sAsg g (aName i)
    | none, some i => if sw then orElse ((dirO C cc e).map fun g => sAsg g (aName i)) (if cc.own then (dirO C cc.allP e).map fun g => sAsg (cBorO g) (aName i) else none) else (C.o cc e).map fun g => sAsg g (aName i)
    | none, none => none
  else none
def nodupB (l : List Nat) : Bool := decide l.Nodup
def tupS (C : Cs) (cc : CC) (ts : List Expr) (e : Expr) : Option MS := match e with
  | .Tuple vs _ _ => (swM cc.sc ts vs).bind fun sw => (nmSlots cc ts).bind fun q => if nodupB q.1 && decide (ts.length = vs.length) && ts.all notStar && (match sw with | none => true | some l => decide (l.length = ts.length) && (ts.length == 2 || ts.length == 3)) then (parA C cc q.2 vs).map fun g => sAsgs g q.1 else none
  | _ => none
noncomputable def stmtS (C : Cs) (B : CC → Bool → List Stmt → Option MS) (cc : CC) (own : Bool) : Stmt → Option MS
  | .Pass _ => some sPass
  | .Break _ => some sBreak
  | .Continue _ => some sCont
  | .Return none _ => some sRetN
  | .Return (some e) _ => if own then (C.o (cc.mvc (cc.mv || isNm e)) e).map sRet else (C.e (cc.mvc (cc.mv || isNm e)) e).map sRet
  | .Expr e _ => if notComp e then (C.e (cc.mvc false) e).map sExpr else none
  | .If c a b _ => (C.t (cc.mvc false) c).bind fun t => (B cc own a).bind fun sa => (B cc own b).map fun sb => sIf t sa sb
  | .For tg it body [] _ => if notSet it then (C.i (cc.mvc false) tg it).bind fun gi => (tgE 4 cc tg).bind fun (f : List Nat × Tg) => (B cc own body).map fun b => sFor gi f.2 b else none
  | .While c body [] _ => (C.t (cc.mvc false) c).bind fun t => (B cc own body).map fun b => whileL t b whFuel
  | .Assign [.Name x xp] e _ => asgS C (cc.mvc false) x xp e
  | .Assign [.Tuple ts k q] e _ => orElse (tupS C (cc.mvc false) ts e) (if notComp e && !isTupOrLst e then (tgE 4 cc (.Tuple ts k q)).bind fun (f : List Nat × Tg) => (C.e (cc.mvc false) e).map fun g => sAsg g f.2 else none)
  | .Assign [.Subscript (.Name x _) ix _] e _ => if notComp e && notSlice ix then (cc.oslot x).bind fun i => (C.e (cc.mvc false) e).bind fun g => (C.e (cc.mvc false) ix).map fun gi => sSetIx i g gi else none
  | _ => none
noncomputable def compB (C : Cs) : Nat → CC → Bool → List Stmt → Option MS
  | 0, _, _, _ => none
  | n + 1, cc, own, [] => some sNil
  | n + 1, cc, own, st :: rest => (stmtS C (compB C n) cc own st).bind fun a => (compB C n cc own rest).map fun b => sSeq a b

section
variable {X : Cx} {S : Stc} {W : WX} {cc : CC} {C : Cs} {own : Bool}
theorem XOkS.mvc (o : XOkS X S W cc) (b : Bool) : XOkS X S W (cc.mvc b) := ⟨o.toXOk.mvF b, o.po, o.kd⟩
theorem swB_ok {env : PySem.Env} {t : Str} {tp : Pos} {e : Expr} {b : Bool} (hk : env.scope.kind = .function) (h : swB env.scope t tp e = some b) (l : Nat) : swapsWith e (some (.Name t tp)) l env = pure b := by
  have hb : env.blockKind = .function := by unfold Env.blockKind; rw [hk]; rfl
  cases e with
  | ListComp elt gs scope pos =>
    unfold swB at h
    cases h
    unfold swapsWith
    simp only [hb]
    rfl
  | SetComp => cases h
  | DictComp => cases h
  | _ => cases h; rfl
theorem swM_ok {env : PySem.Env} {ts vs : List Expr} {k k2 : Nat} {p p2 : Pos} {r : Option (List Str)} (hk : env.scope.kind = .function) (h : swM env.scope ts vs = some r) : swappedStores [.Tuple ts k p] (.Tuple vs k2 p2) env = pure r := by
  have hb : env.blockKind = .function := by unfold Env.blockKind; rw [hk]; rfl
  unfold swM at h
  unfold swappedStores
  simp only [hb]
  dsimp only [Env.kindOf]
  have c0 : (!(ts.length == 2 || ts.length == 3) || vs.length != ts.length || (ScopeKind.function != ScopeKind.function)) = (!(ts.length == 2 || ts.length == 3) || vs.length != ts.length) := by
    rw [bne_self_eq_false, Bool.or_false]
  rw [c0]
  split at h
  · rename_i c
    cases h
    exact if_pos c
  · rename_i c
    refine (if_neg c).trans ?_
    split at h
    · rename_i c2
      cases h
      exact if_pos c2
    · rename_i c2
      refine (if_neg c2).trans ?_
      dsimp only at h
      split at h
      · rename_i c3
        cases h
        exact if_pos c3
      · rename_i c3
        refine (if_neg c3).trans ?_
        split at h
        · rename_i c4
          cases h
          exact if_pos c4
        · rename_i c4
          refine (if_neg c4).trans ?_
          split at h
          · cases h
          · rename_i c5
            cases h
            exact if_neg c5
/-- what a store of a new value to a name asks, whatever way it goes -/
def AsgO (X : Cx) (S : Stc) (W : WX) (i : Nat) (st : Stmt) (g : M Dat) : Prop := PS X st (fun D σ H => ∃ L, L.S = S ∧ tO L W g σ H fun x H1 => D.nx (σ.set i (some x)) H1)
theorem asgO_p {i : Nat} {st : Stmt} {g : M Dat} (hk : S.ks[i]? = some Kd.p) (h : AsgO X S W i st g) : ES X S W own st (sAsg g (aName i)) := fun L hL => by
  subst hL
  refine PS.imp h fun D σ H ⟨F, ρ, r, q⟩ => ⟨L, rfl, ?_⟩
  have q2 : tE L W g σ H fun x H1 => D.nx (σ.set i (some x)) H1 := ⟨F, ρ, r, (PostS.bind (VP := vE L) q).imp fun v H1 ⟨F1, ρ1, d, r1, s1, p1, q⟩ => q (σ.set i (some v)) H1 F1 (r1.setP hk p1) (Same.refl _)⟩
  exact tE_of_tO q2
theorem asgO_m {i : Nat} {st : Stmt} {g : M Dat} (hk : S.ks[i]? = some Kd.m) (h : AsgO X S W i st g) : ES X S W own st (sAsg g (aName i)) := fun L hL => by
  subst hL
  refine PS.imp h fun D σ H ⟨F, ρ, r, q⟩ => ⟨L, rfl, F, ρ, r, ?_⟩
  exact (PostS.bind (VP := vO L) q).imp fun v H1 ⟨F1, ρ1, d, r1, s1, p1, q⟩ => q (σ.set i (some v)) H1 F1 (r1.setM hk p1) (Same.refl _)
theorem asgO_bor {i : Nat} {st : Stmt} {g : M Dat} (h : AsgO X (allP S) W i st g) : AsgO X S W i st (cBorO g) := PS.imp h fun D σ H ⟨L, hL, F, ρ, r, q⟩ => by
  subst hL
  refine ⟨L.bor H (borF L σ ρ H F), rfl, borF L σ ρ H F, ρ, r.bor, ?_⟩
  unfold cBorO at q
  cases eg : g ρ with
  | stuck => rw [eg] at q; exact q
  | exc x ρ1 =>
    rw [eg] at q
    intro cls dd H' F' r' s ex
    obtain ⟨u, su⟩ := r.unbor r'
    exact q cls dd H' _ u su ex
  | ok d ρ1 =>
    rw [eg] at q
    dsimp only at q
    by_cases hl : lfo d = true
    · rw [if_pos hl] at q
      intro v H' F' r' s p
      obtain ⟨u, su⟩ := r.unbor r'
      refine q v H' _ u su ?_
      have keep : ∀ a o, F' a = some o → (∀ xs, o ≠ .lst xs) → unF L σ ρ F' a = some o := fun a o e n => r.unKeep r' e n
      rcases p with ⟨ds, a, e1, e2, ⟨xs, x1, x2, x3⟩, h0, nl⟩ | ⟨n, p⟩
      · subst e1; subst e2
        have h0 : H a = none := h0
        refine .inl ⟨ds, a, rfl, rfl, ⟨xs, x1, ?_, RpA.lfs keep ds x3 hl⟩, r.free0 h0, fun i lv => r.live_ne lv h0 rfl⟩
        by_cases c : ∃ i, LiveAt L σ ρ i a
        · exact unF_live c
        · rw [unF_not c]; exact x2
      · refine .inr ⟨n, Rp.lf keep d p ?_⟩
        cases d with
        | list ds => exact absurd rfl (n ds)
        | _ => exact hl
    · rw [if_neg hl] at q
      exact absurd q (by intro z; exact z)
/-- a comprehension of the text that is stored at once -/
theorem setc_ok (hC : Snd C) (o : XOk X S W cc) {elt : Expr} {gs : List Comprehension} {scope : Scope} {pos spos py : Pos} {y : Str} {i : Nat} {g : M Dat} (h : dirO C cc (.ListComp elt gs scope pos) = some g)
    (hy : X.N[i]? = some y) (hyl : X.env.scope.names.lookup y = some .local) (hsw : swapsWith (.ListComp elt gs scope pos) (some (.Name y py)) spos.line X.env = pure true) :
    AsgO X S W i (.Assign [.Name y py] (.ListComp elt gs scope pos) spos) g := by
  have hK := o.hK
  unfold dirO at h
  split at h
  all_goals first | cases h; done | skip
  all_goals (rename_i e1; cases e1)
  · rename_i tg it ifs
    dsimp only at h
    obtain ⟨h0, h⟩ := oi h
    simp only [Bool.and_eq_true] at h0
    obtain ⟨⟨b1, b2⟩, b3⟩ := h0
    obtain ⟨gi, h1, h⟩ := ob h
    obtain ⟨f, h2, h⟩ := ob h
    obtain ⟨b4, h⟩ := oi h
    obtain ⟨t, h3, h⟩ := ob h
    obtain ⟨e, h4, rfl⟩ := om h
    have ok := blkOk_by b1
    rw [← o.hN, ← o.sc] at ok
    have hvs : ∀ v ∈ snds (ownOf cc scope), S.ks[v]? = some Kd.p := fun v hv => by
      obtain ⟨q, hq, rfl⟩ := List.mem_map.mp hv
      rw [o.ks]
      exact of_decide_eq_true (List.all_eq_true.mp b2 q hq)
    refine PS.imp (ps_setLc o.calm o.nd hy hyl hsw (PI.ex (S := S) (t := fun L => rd L W (vI L.S) gi) fun L hL => by subst hL; exact hC.i o h1 L rfl) ok (fun s H Cc cl fp => PG.ex (tgE_ok (o.blk s H Cc cl fp) h2)) (fun s H Cc cl fp => PTs.ex (ifs_ok hC (o.blk s H Cc cl fp) h3)) (fun s H Cc cl fp => PE.ex (hC.e (o.blk s H Cc cl fp) h4)) (folded_ok b3 _)) fun D σ H ⟨L, hL, q⟩ => ?_
    subst hL
    have z := tLc_of (W := W) (gi := gi) hvs (subL_ok b4) (fun v σ H Q => ∃ L', L'.S = L.S ∧ tG L' f.1 f.2 v σ H Q) (fun σ H Q => ∃ L', L'.S = L.S ∧ tT L' W0 t σ H Q) (fun σ H Q => ∃ L', L'.S = L.S ∧ tE L' W0 e σ H Q) (fun L' hL' v σ H Q q => ⟨L', hL', q⟩) (fun L' hL' σ H Q q => ⟨L', hL', q⟩) (fun L' hL' σ H Q q => ⟨L', hL', q⟩) σ H _ q
    exact ⟨L, rfl, z⟩
  · rename_i tg it ifs tg1 it1 ifs1
    dsimp only at h
    obtain ⟨h0, h⟩ := oi h
    simp only [Bool.and_eq_true] at h0
    obtain ⟨⟨⟨b1, b2⟩, b3⟩, b33⟩ := h0
    obtain ⟨gi, h1, h⟩ := ob h
    obtain ⟨f, h2, h⟩ := ob h
    obtain ⟨b4, h⟩ := oi h
    obtain ⟨t, h3, h⟩ := ob h
    obtain ⟨gi1, h5, h⟩ := ob h
    obtain ⟨f1, h6, h⟩ := ob h
    obtain ⟨b5, h⟩ := oi h
    obtain ⟨t1, h7, h⟩ := ob h
    obtain ⟨e, h4, rfl⟩ := om h
    have ok := blkOk_by b1
    rw [← o.hN, ← o.sc] at ok
    have hvs : ∀ v ∈ snds (ownOf cc scope), S.ks[v]? = some Kd.p := fun v hv => by
      obtain ⟨q, hq, rfl⟩ := List.mem_map.mp hv
      rw [o.ks]
      exact of_decide_eq_true (List.all_eq_true.mp b2 q hq)
    refine PS.imp (ps_setLc2 o.calm o.nd hy hyl hsw (PI.ex (S := S) (t := fun L => rd L W (vI L.S) gi) fun L hL => by subst hL; exact hC.i o h1 L rfl) ok (subL_ok b5) (fun s H Cc cl fp => PG.ex (tgE_ok (o.blk s H Cc cl fp) h2)) (fun s H Cc cl fp => PTs.ex (ifs_ok hC (o.blk s H Cc cl fp) h3))
      (fun s H Cc cl fp => PI.ex (hC.i (o.blk s H Cc cl fp) h5)) (fun s H Cc cl fp => PG.ex (tgE_ok (o.blk s H Cc cl fp) h6)) (fun s H Cc cl fp => PTs.ex (ifs_ok hC (o.blk s H Cc cl fp) h7)) (fun s H Cc cl fp => PE.ex (hC.e (o.blk s H Cc cl fp) h4)) (folded_ok b3 _) (folded_ok b33)) fun D σ H ⟨L, hL, q⟩ => ?_
    subst hL
    have z := tLc2_of (W := W) (gi := gi) hvs (subL_ok b4) (subL_ok b5) (fun i hi => hi) (fun v σ H Q => ∃ L', L'.S = L.S ∧ tG L' f.1 f.2 v σ H Q) (fun σ H Q => ∃ L', L'.S = L.S ∧ tT L' W0 t σ H Q) (fun σ H Q => ∃ L', L'.S = L.S ∧ rd L' W0 (vI L.S) gi1 σ H Q) (fun v σ H Q => ∃ L', L'.S = L.S ∧ tG L' f1.1 f1.2 v σ H Q) (fun σ H Q => ∃ L', L'.S = L.S ∧ tT L' W0 t1 σ H Q) (fun σ H Q => ∃ L', L'.S = L.S ∧ tE L' W0 e σ H Q) (fun L' hL' v σ H Q q => ⟨L', hL', q⟩) (fun L' hL' σ H Q q => ⟨L', hL', q⟩) (fun L' hL' σ H Q q => ⟨L', hL', q⟩) (fun L' hL' v σ H Q q => ⟨L', hL', q⟩) (fun L' hL' σ H Q q => ⟨L', hL', q⟩) (fun L' hL' σ H Q q => ⟨L', hL', q⟩) σ H _ q
    exact ⟨L, rfl, z⟩
end
end L2.PV
set_option Elab.async false
set_option linter.all false
set_option maxRecDepth 100000
set_option maxHeartbeats 4000000
namespace L2.PV
open PySem PySem.Spec PyProof.Rows
section
variable {X : Cx} {S : Stc} {W : WX} {cc : CC} {C : Cs} {own : Bool}
/-- any other way of a store -/
theorem asgO_set {i : Nat} {x : Str} {xp spos : Pos} {e : Expr} {g : M Dat} (hN : X.N.Nodup) (hi : X.N[i]? = some x) (hx : Loc X.env.scope x) (hf : X.fn x = true ∨ X.env.scope.names.lookup x = some .local) (he : EO X S W e g) (hs : swapsWith e (some (.Name x xp)) spos.line X.env = pure false) : AsgO X S W i (.Assign [.Name x xp] e spos) g :=
  PS.imp (ps_set hN hi hx (PE.ex (t := fun L => tO L W g) he) hs hf) fun D σ H ⟨L, hL, q⟩ => ⟨L, hL, q⟩
theorem swB_true {sc : Scope} {t : Str} {tp : Pos} {e : Expr} (h : swB sc t tp e = some true) : ∃ elt gs scope pos, e = .ListComp elt gs scope pos ∧ sc.names.lookup t = some .local := by
  cases e with
  | ListComp elt gs scope pos =>
    unfold swB at h
    injection h with h
    simp only [Bool.and_eq_true, beq_iff_eq] at h
    exact ⟨elt, gs, scope, pos, rfl, h.1.1⟩
  | SetComp => cases h
  | DictComp => cases h
  | _ => cases h
theorem asgS_ok (hC : Snd C) (o : XOkS X S W cc) {x : Str} {xp spos : Pos} {e : Expr} {s : MS} (h : asgS C cc x xp e = some s) : ES X S W own (.Assign [.Name x xp] e spos) s := by
  unfold asgS at h
  obtain ⟨h0, h⟩ := oi h
  obtain ⟨t1, t2⟩ := o.tg x h0
  obtain ⟨sw, h1, h⟩ := ob h
  have hk : X.env.scope.kind = .function := by rw [o.sc]; exact o.kd
  have hsw := swB_ok (l := spos.line) hk (by rw [o.sc]; exact h1)
  split at h
  · rename_i i hi
    obtain ⟨s1, s2, s3, s4, s5⟩ := o.slotP hi
    cases sw with
    | true =>
      rw [if_pos rfl] at h
      obtain ⟨elt, gs, scope, pos, rfl, hl⟩ := swB_true h1
      rw [← o.sc] at hl
      rcases orE_some h with h | h
      · obtain ⟨g, h2, rfl⟩ := om h
        exact asgO_p s3 (setc_ok hC o.toXOk h2 s1 hl hsw)
      · obtain ⟨_, h⟩ := oi h
        obtain ⟨g, h2, rfl⟩ := om h
        exact asgO_p s3 (asgO_bor (setc_ok hC o.toXOk.allP h2 s1 hl hsw))
    | false =>
      rw [if_neg Bool.false_ne_true] at h
      obtain ⟨g, h2, rfl⟩ := om h
      refine es_asg (sl := [i]) (hC.e o.toXOk h2) (eg_name o.nd s1 t1 t2 s3) hsw ?_ rfl
      rfl
  · rename_i i _ hi
    obtain ⟨s1, s2, s3, s4, s5⟩ := o.slotP hi
    cases sw with
    | true =>
      rw [if_pos rfl] at h
      obtain ⟨elt, gs, scope, pos, rfl, hl⟩ := swB_true h1
      rw [← o.sc] at hl
      rcases orE_some h with h | h
      · obtain ⟨g, h2, rfl⟩ := om h
        exact asgO_m s3 (setc_ok hC o.toXOk h2 s1 hl hsw)
      · obtain ⟨_, h⟩ := oi h
        obtain ⟨g, h2, rfl⟩ := om h
        exact asgO_m s3 (asgO_bor (setc_ok hC o.toXOk.allP h2 s1 hl hsw))
    | false =>
      rw [if_neg Bool.false_ne_true] at h
      obtain ⟨g, h2, rfl⟩ := om h
      exact asgO_m s3 (asgO_set o.nd s1 t1 t2 (hC.o o.toXOk h2) hsw)
  · cases h
theorem nmSlots_ok (o : XOkS X S W cc) : ∀ {ts : List Expr} {q : List Nat × List Bool}, nmSlots cc ts = some q → EGm X S ts q.2 q.1 ∧ q.1.length = ts.length ∧ q.2.length = ts.length ∧ ts.all notStar = true
  | [], q, h => by cases h; exact ⟨egm_nil, rfl, rfl, rfl⟩
  | e :: es, q, h => by
    unfold nmSlots at h
    split at h
    · rename_i e2; cases e2
    · rename_i x p es' e2
      cases e2
      obtain ⟨h0, h⟩ := oi h
      obtain ⟨t1, t2⟩ := o.tg x h0
      obtain ⟨r, h1, h⟩ := ob h
      obtain ⟨r1, r2, r3, r4⟩ := nmSlots_ok o h1
      split at h
      · rename_i i hi
        cases h
        obtain ⟨s1, s2, s3, s4, s5⟩ := o.slotP hi
        exact ⟨egm_cons (b := false) o.nd s1 t1 t2 s3 r1 (by rw [assignEach_cons rfl]; rfl), congrArg (· + 1) r2, congrArg (· + 1) r3, by rw [List.all_cons, r4]; rfl⟩
      · obtain ⟨i, hi, rfl⟩ := om h
        obtain ⟨s1, s2, s3, s4, s5⟩ := o.slotP hi
        exact ⟨egm_cons (b := true) o.nd s1 t1 t2 s3 r1 (by rw [assignEach_cons rfl]; rfl), congrArg (· + 1) r2, congrArg (· + 1) r3, by rw [List.all_cons, r4]; rfl⟩
    · cases h
theorem parA_ok (hC : Snd C) (o : XOk X S W cc) : ∀ {fl : List Bool} {es : List Expr} {g : M (List Dat)}, parA C cc fl es = some g → EAm X S W fl es g
  | [], [], g, h => by cases h; exact eam_nil
  | [], _ :: _, g, h => by cases h
  | false :: fl, [], g, h => by cases h
  | true :: fl, [], g, h => by cases h
  | false :: fl, e :: es, g, h => by
    unfold parA at h
    obtain ⟨h0, h⟩ := oi h
    obtain ⟨a, h1, h⟩ := ob h
    obtain ⟨b, h2, rfl⟩ := om h
    exact eam_p (hC.e o h1) (parA_ok hC o h2) (star_cons h0)
  | true :: fl, e :: es, g, h => by
    unfold parA at h
    obtain ⟨h0, h⟩ := oi h
    obtain ⟨a, h1, h⟩ := ob h
    obtain ⟨b, h2, rfl⟩ := om h
    exact eam_m (hC.o o h1) (parA_ok hC o h2) (star_cons h0)
/-- one name of a store -/
theorem nm1 (o : XOkS X S W cc) {e : Expr} {es : List Expr} {q : List Nat × List Bool} (h : nmSlots cc (e :: es) = some q) : ∃ x p i b r, e = .Name x p ∧ q = (i :: r.1, b :: r.2) ∧ X.N[i]? = some x ∧ S.ks[i]? = some (kdOf b) ∧ nmSlots cc es = some r := by
  unfold nmSlots at h
  split at h
  · rename_i e2; cases e2
  · rename_i x p es' e2
    cases e2
    obtain ⟨h0, h⟩ := oi h
    obtain ⟨r, h1, h⟩ := ob h
    split at h
    · rename_i i hi
      cases h
      obtain ⟨s1, s2, s3, s4, s5⟩ := o.slotP hi
      exact ⟨x, p, i, false, r, rfl, rfl, s1, s3, h1⟩
    · obtain ⟨i, hi, rfl⟩ := om h
      obtain ⟨s1, s2, s3, s4, s5⟩ := o.slotP hi
      exact ⟨x, p, i, true, r, rfl, rfl, s1, s3, h1⟩
  · cases h
/-- the names that swappedStores gives are the targets, each a plain local -/
theorem swM_names {sc : Scope} {ts vs : List Expr} {l : List Str} (h : swM sc ts vs = some (some l)) : ∃ line : Nat, l = ts.filterMap (fun
      | .Name id pos => if sc.names.lookup id == some .local && pos.line == line then some id else none
      | _ => none) := by
  unfold swM at h
  split at h
  · cases h
  split at h
  · cases h
  dsimp only at h
  split at h
  · cases h
  split at h
  · cases h
  split at h
  · cases h
  · injection h with h
    injection h with h
    exact ⟨_, h.symm⟩
theorem fm_name {sc : Scope} {line : Nat} {x : Str} {p : Pos} {ts : List Expr} (h : ((.Name x p :: ts : List Expr).filterMap (fun
      | .Name id pos => if sc.names.lookup id == some .local && pos.line == line then some id else none
      | _ => none)).length = ts.length + 1) : sc.names.lookup x = some .local ∧ (ts.filterMap (fun
      | .Name id pos => if sc.names.lookup id == some .local && pos.line == line then some id else none
      | _ => none)).length = ts.length ∧ (.Name x p :: ts : List Expr).filterMap (fun
      | .Name id pos => if sc.names.lookup id == some .local && pos.line == line then some id else none
      | _ => none) = x :: ts.filterMap (fun
      | .Name id pos => if sc.names.lookup id == some .local && pos.line == line then some id else none
      | _ => none) := by
  rw [List.filterMap_cons] at h ⊢
  dsimp only at h ⊢
  by_cases c : (sc.names.lookup x == some .local && p.line == line) = true
  · rw [if_pos c] at h ⊢
    rw [Bool.and_eq_true] at c
    refine ⟨by simpa using c.1, ?_, rfl⟩
    simpa using h
  · rw [if_neg c] at h
    have := List.length_filterMap_le (fun
      | .Name id pos => if sc.names.lookup id == some .local && pos.line == line then some id else none
      | _ => none) ts
    dsimp only at h
    omega
theorem tupS_ok (hC : Snd C) (o : XOkS X S W cc) {ts : List Expr} {kt : Nat} {pt spos : Pos} {e : Expr} {s : MS} (h : tupS C cc ts e = some s) : ES X S W own (.Assign [.Tuple ts kt pt] e spos) s := by
  unfold tupS at h
  split at h
  · rename_i vs k2 p2
    obtain ⟨sw, h1, h⟩ := ob h
    obtain ⟨q, h2, h⟩ := ob h
    obtain ⟨h3, h⟩ := oi h
    obtain ⟨g, h4, rfl⟩ := om h
    simp only [Bool.and_eq_true, decide_eq_true_eq] at h3
    obtain ⟨⟨⟨n1, n2⟩, n3⟩, n4⟩ := h3
    unfold nodupB at n1
    have n1 := of_decide_eq_true n1
    have hk : X.env.scope.kind = .function := by rw [o.sc]; exact o.kd
    have hw := swM_ok (k := kt) (k2 := k2) (p := pt) (p2 := p2) hk (by rw [o.sc]; exact h1)
    have hs : swapsWithSole [.Tuple ts kt pt] (.Tuple vs k2 p2) spos.line X.env = pure false := rfl
    have hA := parA_ok hC o.toXOk h4
    cases sw with
    | none =>
      obtain ⟨r1, r2, r3, r4⟩ := nmSlots_ok o h2
      exact es_parT o.hK o.calm hA r1 (assignEach_len r4) r3 (assignEach_find r4) hs hw rfl
    | some l =>
      simp only [Bool.and_eq_true, decide_eq_true_eq, Bool.or_eq_true, beq_iff_eq] at n4
      obtain ⟨m1, m2⟩ := n4
      obtain ⟨line, el⟩ := swM_names h1
      rcases m2 with m2 | m2
      · obtain ⟨ta, tb, rfl⟩ := len2 m2
        obtain ⟨va, vb, rfl⟩ := len2 (n2.symm.trans m2)
        obtain ⟨x, px, i, b, r, rfl, rfl, i1, i2, ha⟩ := nm1 o h2
        obtain ⟨y, py, j, b2, r2, rfl, er, j1, j2, hb'⟩ := nm1 o ha
        subst er
        cases hb'
        rw [el] at m1
        obtain ⟨lx, m1', f1⟩ := fm_name m1
        obtain ⟨ly, _, f2⟩ := fm_name m1'
        rw [f1, f2] at el
        subst el
        rw [← o.sc] at lx ly
        simp only [List.nodup_cons, List.mem_cons, List.not_mem_nil, or_false] at n1
        exact es_par2 o.calm o.nd i1 j1 n1.1 lx ly hA hw hs i2 j2
      · obtain ⟨ta, tb, tc, rfl⟩ := len3 m2
        obtain ⟨va, vb, vc, rfl⟩ := len3 (n2.symm.trans m2)
        obtain ⟨x, px, i, b, r, rfl, rfl, i1, i2, ha⟩ := nm1 o h2
        obtain ⟨y, py, j, b2, r2, rfl, er, j1, j2, hb'⟩ := nm1 o ha
        subst er
        obtain ⟨z, pz, k, b3, r3, rfl, er, k1, k2', hc'⟩ := nm1 o hb'
        subst er
        cases hc'
        rw [el] at m1
        obtain ⟨lx, m1', f1⟩ := fm_name m1
        obtain ⟨ly, m1'', f2⟩ := fm_name m1'
        obtain ⟨lz, _, f3⟩ := fm_name m1''
        rw [f1, f2, f3] at el
        subst el
        rw [← o.sc] at lx ly lz
        simp only [List.nodup_cons, List.mem_cons, List.not_mem_nil, or_false, not_or] at n1
        exact es_par3 o.calm o.nd i1 j1 k1 n1.1.1 n1.1.2 n1.2.1 lx ly lz hA hw hs i2 j2 k2'
  · cases h
theorem swapsSole {t e : Expr} {l : Nat} {env : PySem.Env} (h : notComp e = true) : swapsWithSole [t] e l env = pure false := swaps_none h _ _ _
theorem assign_sub {a ix : Expr} {pos : Pos} {env : PySem.Env} (h : notSlice ix = true) : ∀ v, assign (.Subscript a ix pos) env v = (do
      let ov ← holding [v] (eval a env)
      let iv ← holding [v, ov] (eval ix env)
      standAt pos
      holding [v, ov, iv] (setItem ov iv v)
      release [v, ov, iv] []) := fun v => by
  cases ix <;> first | rfl | cases h
theorem notTup_sw {ts : List Expr} {k : Nat} {p : Pos} {e : Expr} {env : PySem.Env} (h : isTupOrLst e = false) : swappedStores [.Tuple ts k p] e env = pure none := by
  cases e <;> first | rfl | cases h
theorem stmtS_ok (hC : Snd C) {B : CC → Bool → List Stmt → Option MS} (hB : ∀ {cc : CC} {body : List Stmt} {b : MS}, XOkS X S W cc → B cc own body = some b → ESs X S W own body b) (o : XOkS X S W cc) {st : Stmt} {s : MS} (h : stmtS C B cc own st = some s) : ES X S W own st s := by
  have of := o.mvc false
  unfold stmtS at h
  split at h
  · cases h; exact es_pass
  · cases h; exact es_break
  · cases h; exact es_cont
  · cases h; exact es_retN
  · cases own with
    | true =>
      rw [if_pos rfl] at h
      obtain ⟨g, h1, rfl⟩ := om h
      exact es_retO (hC.o (o.mvc _).toXOk h1)
    | false =>
      rw [if_neg Bool.false_ne_true] at h
      obtain ⟨g, h1, rfl⟩ := om h
      exact es_ret (hC.e (o.mvc _).toXOk h1)
  · obtain ⟨h0, h⟩ := oi h
    obtain ⟨g, h1, rfl⟩ := om h
    exact es_expr (hC.e of.toXOk h1) (swaps_none h0 _ _ _)
  · obtain ⟨t, h1, h⟩ := ob h
    obtain ⟨sa, h2, h⟩ := ob h
    obtain ⟨sb, h3, rfl⟩ := om h
    exact es_if (hC.t of.toXOk h1) (hB o h2) (hB o h3)
  · obtain ⟨h0, h⟩ := oi h
    obtain ⟨gi, h1, h⟩ := ob h
    obtain ⟨f, h2, h⟩ := ob h
    obtain ⟨b, h3, rfl⟩ := om h
    exact es_for o.po o.calm (hC.i of.toXOk h1) (tgE_ok o.toXOk h2) (hB o h3) (folded_ok h0 _)
  · obtain ⟨t, h1, h⟩ := ob h
    obtain ⟨b, h3, rfl⟩ := om h
    exact es_while o.po (hC.t of.toXOk h1) (hB o h3)
  · exact asgS_ok hC of h
  · rcases orE_some h with h | h
    · exact tupS_ok hC of h
    · obtain ⟨h0, h⟩ := oi h
      rw [Bool.and_eq_true, Bool.not_eq_true'] at h0
      obtain ⟨f, h1, h⟩ := ob h
      obtain ⟨g, h2, rfl⟩ := om h
      refine es_asg (hC.e of.toXOk h2) (tgE_ok o.toXOk h1) ?_ (notTup_sw h0.2) rfl
      exact swapsSole h0.1
  · obtain ⟨h0, h⟩ := oi h
    rw [Bool.and_eq_true] at h0
    obtain ⟨i, h1, h⟩ := ob h
    obtain ⟨g, h2, h⟩ := ob h
    obtain ⟨gi, h3, rfl⟩ := om h
    obtain ⟨s1, s2, s3, s4, s5⟩ := o.slotO h1
    exact es_setIx s1 s2 s3 s4 s5 (hC.e of.toXOk h2) (hC.e of.toXOk h3) (swapsSole h0.1) rfl rfl (assign_sub h0.2)
  · cases h
theorem compB_ok (hC : Snd C) : ∀ (n : Nat) {cc : CC} {body : List Stmt} {b : MS}, XOkS X S W cc → compB C n cc own body = some b → ESs X S W own body b
  | 0, _, _, _, _, h => nomatch h
  | n + 1, cc, [], b, o, h => by
    unfold compB at h
    cases h; exact ess_nil
  | n + 1, cc, st :: rest, b, o, h => by
    unfold compB at h
    obtain ⟨a, h1, h⟩ := ob h
    obtain ⟨r, h2, rfl⟩ := om h
    exact ess_cons (stmtS_ok hC (fun o h => compB_ok hC n o h) o h1) (compB_ok hC n o h2)
end
end L2.PV
set_option Elab.async false
set_option linter.all false
set_option maxRecDepth 100000
set_option maxHeartbeats 4000000
namespace L2.PV
open PySem PySem.Spec PyProof.Rows
/-! ### a whole program -/
structure DefE where
  x : Str
  sg : Sg
  N : List Str
  ps : List Str
  ks : List Kd
  mv : Bool
  params : Arguments
  body : List Stmt
  scope : Scope
structure Pg where
  defs : List DefE
  cons : List (Str × Dat)
  blts : List Str
def Pg.gk (p : Pg) (φ : Str → FnSem) (x : Str) : GK := match p.defs.find? (fun d => decide (d.x = x)) with
  | some d => .fn d.sg (φ x)
  | none => match p.cons.lookup x with
    | some d => .con d
    | none => if x ∈ p.blts then .blt else .no
def stuckS : MS := fun _ => .stuck
noncomputable def bodyO (p : Pg) (φ : Str → FnSem) (d : DefE) : Option MS := compB (comp 40) 60 ⟨d.N, d.scope, d.ks, tgB d.scope, p.gk φ, d.mv⟩ d.sg.own d.body
noncomputable def bodyM (p : Pg) (φ : Str → FnSem) (d : DefE) : MS := (bodyO p φ d).getD stuckS
def runG (sg : Sg) (n : Nat) (s : MS) : FnSem := fun ds => if ds.length = sg.np then runF sg n s ds else .stuck
noncomputable def Pg.sem (p : Pg) : Nat → Str → FnSem
  | 0, _ => fun _ => .stuck
  | k + 1, x => match p.defs.find? (fun d => decide (d.x = x)) with
    | some d => runG d.sg d.N.length (bodyM p (p.sem k) d)
    | none => fun _ => .stuck
def scB (N ps : List Str) (sc : Scope) : Bool := decide (sc.kind = .function) && !sc.isCoroutine && !sc.isGenerator && decide N.Nodup && decide (N.take ps.length = ps) && (ps.all fun x => tgB sc x) && (sc.names.all fun y => decide (y.2 ≠ .free))
theorem scB_ok {N ps : List Str} {sc : Scope} (h : scB N ps sc = true) : FnScope N ps sc := by
  unfold scB at h
  simp only [Bool.and_eq_true, decide_eq_true_eq, Bool.not_eq_true', List.all_eq_true] at h
  obtain ⟨⟨⟨⟨⟨⟨h1, h2⟩, h3⟩, h4⟩, h5⟩, h6⟩, h7⟩ := h
  refine ⟨h1, h2, h3, h4, h5, fun x hx => ?_, h7⟩
  have := h6 x hx
  unfold tgB at this
  split at this
  · rename_i e; exact .inl e
  · rename_i e; exact .inr e
  · cases this
def DefE.wf (d : DefE) : Bool := scB d.N d.ps d.scope && decide (d.ps.length = d.sg.np) && kindsOk d.sg d.ks && decide (d.ks.length = d.N.length) && (match d.sg.io with | none => true | some j => decide (d.ks[j]? = some Kd.io))
abbrev Gof (p : Pg) (K : PySem.W.Frag) : Str → Option Addr := fun x => if p.defs.any (fun d => decide (d.x = x)) then some (He.ga K x) else none
structure PgOk (p : Pg) (K : PySem.W.Frag) (mg : Str → Option Value) : Prop where
  fn : ∀ d ∈ p.defs, ∃ fd, FunD K d.x d.x d.params d.body d.scope [] [] (He.ga K d.x) fd ∧ Binds K fd d.ps []
  mgF : ∀ d ∈ p.defs, mg d.x = some (.ref (He.ga K d.x))
  mgB : ∀ x ∈ p.blts, mg x = none
  con : ∀ q ∈ p.cons, ∃ u v, mg q.1 = some u ∧ RelV v u ∧ ∀ F, Rp K (Gof p K) F v q.2
  wf : ∀ d ∈ p.defs, d.wf = true
section
variable {P : Program} {w : World} {K : PySem.W.Frag} {mg : Str → Option Value} {base : Heap} {p : Pg} {ex : Dat → Value → Option Addr → Hp → Prop}
theorem es_stuck {X : Cx} {S : Stc} {W : WX} {own : Bool} {body : List Stmt} : ESs X S W own body stuckS := fun L hL => ⟨fun pins s σ H D I ⟨F, ρ, r, q⟩ => absurd q (by intro z; exact z)⟩
theorem lookup_mem {l : List (Str × Dat)} {x : Str} {d : Dat} (h : l.lookup x = some d) : (x, d) ∈ l := PySem.mem_of_lookup h
theorem sem_len {k : Nat} {d : DefE} {x : Str} (hf : p.defs.find? (fun d => decide (d.x = x)) = some d) : ∀ ds, p.sem k x ds ≠ .stuck → ds.length = d.sg.np := fun ds h => by
  cases k with
  | zero => exact absurd rfl h
  | succ k =>
    unfold Pg.sem at h
    rw [hf] at h
    dsimp only at h
    unfold runG at h
    by_cases c : ds.length = d.sg.np
    · exact c
    · rw [if_neg c] at h; exact absurd rfl h
theorem Pg.ok (o : PgOk p K mg) (hnd : (p.defs.map (·.x)).Nodup) : ∀ k : Nat, ∀ d ∈ p.defs, ∃ fd, FunD K d.x d.x d.params d.body d.scope [] [] (He.ga K d.x) fd ∧ Binds K fd d.ps [] ∧ FnOk P w K mg base (L2.CX P w) k (He.ga K d.x) fd d.ps (spF K (Gof p K) ex d.sg (p.sem k d.x)) := by
  intro k
  induction k with
  | zero =>
    intro d hd
    obtain ⟨fd, F, B⟩ := o.fn d hd
    have wf := o.wf d hd
    unfold DefE.wf at wf
    simp only [Bool.and_eq_true, decide_eq_true_eq] at wf
    exact ⟨fd, F, B, fnok0 (S := ⟨K, Gof p K, d.ks, ex⟩) wf.1.1.1.2⟩
  | succ k ih =>
    intro d hd
    obtain ⟨fd, F, B⟩ := o.fn d hd
    have wf := o.wf d hd
    unfold DefE.wf at wf
    simp only [Bool.and_eq_true, decide_eq_true_eq] at wf
    obtain ⟨⟨⟨⟨w1, w2⟩, w3⟩, w4⟩, w5⟩ := wf
    have Sc := scB_ok w1
    have hfind : p.defs.find? (fun e => decide (e.x = d.x)) = some d := by
      have : ∀ l : List DefE, (l.map (·.x)).Nodup → d ∈ l → l.find? (fun e => decide (e.x = d.x)) = some d := by
        intro l
        induction l with
        | nil => intro _ h; cases h
        | cons e l ihl =>
          intro hn hm
          rw [List.map_cons, List.nodup_cons] at hn
          rw [List.find?_cons]
          by_cases c : e.x = d.x
          · rcases List.mem_cons.mp hm with rfl | hm
            · rw [decide_eq_true rfl]
            · exact absurd (List.mem_map.mpr ⟨d, hm, c.symm⟩) hn.1
          · rw [decide_eq_false c]
            rcases List.mem_cons.mp hm with rfl | hm
            · exact absurd rfl c
            · exact ihl hn.2 hm
      exact this p.defs hnd hd
    have hsem : p.sem (k + 1) d.x = runG d.sg d.N.length (bodyM p (p.sem k) d) := by
      show (match p.defs.find? (fun e => decide (e.x = d.x)) with
        | some d => runG d.sg d.N.length (bodyM p (p.sem k) d)
        | none => fun _ => .stuck) = _
      rw [hfind]
    refine ⟨fd, F, B, ?_⟩
    have main : FnOk P w K mg base (L2.CX P w) (k + 1) (He.ga K d.x) fd d.ps (spF K (Gof p K) ex d.sg (runF d.sg d.N.length (bodyM p (p.sem k) d))) := by
      refine fnok (S := ⟨K, Gof p K, d.ks, ex⟩) F Sc rfl w2 w3 w4 (fun j hj => ?_) fun cdv A outer s H E hr => ?_
      · rw [hj] at w5
        exact of_decide_eq_true w5
      · unfold bodyM
        cases hb : bodyO p (p.sem k) d with
        | none => exact es_stuck
        | some b =>
          refine compB_ok (comp_ok 40) 60 ?_ hb
          refine ⟨⟨rfl, rfl, rfl, Sc.nd, rfl, rfl, fun x hx => ?_, takes_of rfl rfl rfl rfl, ?_, fun x hx => ?_, fun x sg φ hx => ?_, fun x dd hx => ?_⟩, passes_of rfl, Sc.kind⟩
          · refine ⟨?_, .inl rfl⟩
            have hx : tgB d.scope x = true := hx
            show Loc d.scope x
            unfold tgB at hx
            split at hx
            · rename_i e; exact .inl e
            · rename_i e; exact .inr e
            · cases hx
          · have := hr.un
            show (A.deeper _).units + 70 < cLine
            omega
          · have hx : p.gk (p.sem k) x = .blt := hx
            unfold Pg.gk at hx
            split at hx
            · cases hx
            · split at hx
              · cases hx
              · split at hx
                · rename_i h; exact o.mgB x h
                · cases hx
          · have hx : p.gk (p.sem k) x = .fn sg φ := hx
            unfold Pg.gk at hx
            split at hx
            · rename_i d' hf
              cases hx
              have e1 : d'.x = x := of_decide_eq_true (by simpa using List.find?_some hf)
              have m1 : d' ∈ p.defs := List.mem_of_find?_eq_some hf
              obtain ⟨fd', F', B', ok'⟩ := ih d' m1
              rw [e1] at F' ok'
              exact ⟨k, _, fd', d'.ps, ok', hr, by have := o.mgF d' m1; rw [e1] at this; exact this, F'.kp, B', sem_len hf⟩
            · split at hx
              · cases hx
              · split at hx <;> cases hx
          · have hx : p.gk (p.sem k) x = .con dd := hx
            unfold Pg.gk at hx
            split at hx
            · cases hx
            · split at hx
              · rename_i d' hl
                cases hx
                exact o.con _ (lookup_mem hl)
              · split at hx <;> cases hx
    rw [hsem]
    refine main.imp fun vs H Q E ⟨h1, F, ds, ioa, h2, h3, h4⟩ => ⟨h1, F, ds, ioa, h2, h3, ?_⟩
    unfold runG at h4
    by_cases c : ds.length = d.sg.np
    · rw [if_pos c] at h4; exact h4
    · rw [if_neg c] at h4; exact h4.elim
end
/-! ### constants of the module -/
def valsB (f : Value → Dat → Bool) : List Value → List Dat → Bool
  | [], [] => true
  | u :: us, d :: ds => f u d && valsB f us ds
  | _, _ => false
def valB (K : PySem.W.Frag) : Nat → Value → Dat → Bool
  | 0, _, _ => false
  | n + 1, u, d => match u, d with
    | .none, .none => true
    | .bool b, .bool c => b == c
    | .int i _, .int j => decide (i = j)
    | .str x _, .str y => decide (x = y)
    | .ref a, .tuple ds => (match K.lookup a with
      | some ⟨.type c, _, .seq its _, _⟩ => decide (c = "tuple") && decide (its.size ≤ lineN) && valsB (valB K n) its.toList ds
      | _ => false)
    | _, _ => false
theorem valsB_ok {K : PySem.W.Frag} {G : Str → Option Addr} {f : Value → Dat → Bool} (hf : ∀ u d, f u d = true → ∃ v, RelV v u ∧ ∀ F, Rp K G F v d) : ∀ {us : List Value} {ds : List Dat}, valsB f us ds = true → ∃ vs, Vals vs us ∧ ∀ F, RpA K G F vs ds
  | [], [], _ => ⟨[], .nil, fun _ => .nil⟩
  | [], _ :: _, h => by cases h
  | _ :: _, [], h => by cases h
  | u :: us, d :: ds, h => by
    unfold valsB at h
    rw [Bool.and_eq_true] at h
    obtain ⟨v, h1, h2⟩ := hf u d h.1
    obtain ⟨vs, h3, h4⟩ := valsB_ok hf h.2
    exact ⟨v :: vs, .cons h1 h3, fun F => .cons (h2 F) (h4 F)⟩
theorem valB_ok {K : PySem.W.Frag} {G : Str → Option Addr} : ∀ {n : Nat} {u : Value} {d : Dat}, valB K n u d = true → ∃ v, RelV v u ∧ ∀ F, Rp K G F v d
  | 0, _, _, h => by cases h
  | n + 1, u, d, h => by
    unfold valB at h
    split at h
    · exact ⟨.non, rfl, fun _ => .non⟩
    · rename_i b c
      have : b = c := by simpa using h
      subst this
      exact ⟨.bl b, rfl, fun _ => .bl b⟩
    · rename_i i t j
      have := of_decide_eq_true h
      subst this
      exact ⟨.int i, ⟨t, rfl⟩, fun _ => .int i⟩
    · rename_i x t y
      have := of_decide_eq_true h
      subst this
      exact ⟨.str x, ⟨t, rfl⟩, fun _ => .str x⟩
    · rename_i a ds
      split at h
      · rename_i c od its m osl hl
        simp only [Bool.and_eq_true, decide_eq_true_eq] at h
        obtain ⟨⟨h1, h2⟩, h3⟩ := h
        obtain ⟨vs, h4, h5⟩ := valsB_ok (K := K) (G := G) (fun u d hu => valB_ok hu) h3
        exact ⟨.ref a, rfl, fun F => .tup (.inr ⟨_, its, m, hl, congrArg Value.type h1, rfl, by rw [line_eq]; exact h2, h4⟩) (h5 F)⟩
      · cases h
    · cases h
def conB (K : PySem.W.Frag) (q : Str × Dat) : Bool := match PySem.W.nsIn K mainGlobals q.1 with
  | some (some u) => valB K 8 u q.2
  | _ => false
theorem conB_ok {K : PySem.W.Frag} {G : Str → Option Addr} {h : Heap} {mg : Str → Option Value} (X : K.In h) (N : h.Ns mainGlobals mg) {q : Str × Dat} (c : conB K q = true) : ∃ u v, mg q.1 = some u ∧ RelV v u ∧ ∀ F, Rp K G F v q.2 := by
  unfold conB at c
  split at c
  · rename_i u e
    obtain ⟨v, h1, h2⟩ := valB_ok (G := G) c
    exact ⟨u, v, PySem.W.mg_of X N e, h1, h2⟩
  · cases c
/-! ### the head's facts -/
def faE (p : Pg) : List He.Fa := p.defs.map (fun d => .glo d.x) ++ p.blts.map .free
def fnE (p : Pg) : List He.DefD := p.defs.map fun d => ⟨(d.x, none), d.x, d.x, d.params, d.body, d.scope, [], []⟩
abbrev AlE : Type := He.AlD × Bool
def exE (p : Pg) (K : PySem.W.Frag) : Bool := p.cons.all (conB K)
def obsE (n : Nat) (p : Pg) (g : Addr → Option Obj) : AlE := (He.obsD (faE p) (fnE p) (He.frG g (He.asD g n)), exE p (He.frG g (He.asD g n)))
def hookE (n : Nat) (p : Pg) : PySem.W.Hook where
  α := AlE
  obs := fun s => obsE n p s.heap.get?
  val := fun _ => (He.valD (fnE p), true)
  says := fun _ h => ∃ K : PySem.W.Frag, K.In h ∧ He.SaysD (faE p) (fnE p) K ∧ exE p K = true
  of := fun _ _ e => ⟨_, He.frG_in, congrArg (fun z : AlE => z.1) e, congrArg (fun z : AlE => z.2) e⟩
  keeps := fun _ _ _ ⟨K, hK, c⟩ k => ⟨K, PySem.W.Frag.In.keeps hK k, c⟩
theorem obsE_eq {n : Nat} {p : Pg} {g : Addr → Option Obj} {s : Shared} (h : ∀ a, g a = s.heap.get? a) : obsE n p g = (hookE n p).obs s := by
  have e : g = s.heap.get? := funext h
  rw [e] <;> rfl
theorem says_fact {fa : List He.Fa} {fn : List He.DefD} {K : PySem.W.Frag} (c : He.SaysD fa fn K) {f : He.Fa} (h : f ∈ fa) : f.ok K = true := by
  obtain ⟨i, hi, e⟩ := List.mem_iff_getElem.mp h
  exact c.fact i (f := f) (by rw [List.getElem?_eq_getElem hi, e])
theorem says_def {fa : List He.Fa} {fn : List He.DefD} {K : PySem.W.Frag} (c : He.SaysD fa fn K) {d : He.DefD} (h : d ∈ fn) : ∃ fd, FunD K d.name d.qual d.params d.body d.scope (d.dvs K) (d.kws K) (He.fAd K d.at_) fd := by
  obtain ⟨i, hi, e⟩ := List.mem_iff_getElem.mp h
  exact c.def_ i (d := d) (by rw [List.getElem?_eq_getElem hi, e])
/-- how the parameters are bound: to be had by rfl for each count -/
def BindN (d : DefE) : Prop := ∀ (kV doc pm : Value) (an : Option Addr) (cdv ct : Value) (us : List Value), us.length = d.ps.length → bindArgs (PySem.W.fnOf d.x d.x d.params d.body d.scope .none kV doc pm an cdv ct) ⟨us, []⟩ = pure (d.ps.zip us)
theorem pgOk {p : Pg} {K : PySem.W.Frag} {h : Heap} {mg : Str → Option Value} (X : K.In h) (N : h.Ns mainGlobals mg) (c : He.SaysD (faE p) (fnE p) K) (e : exE p K = true) (hb : ∀ d ∈ p.defs, BindN d) (wf : p.defs.all DefE.wf = true) : PgOk p K mg := by
  refine ⟨fun d hd => ?_, fun d hd => ?_, fun x hx => ?_, fun q hq => ?_, fun d hd => List.all_eq_true.mp wf d hd⟩
  · obtain ⟨fd, F⟩ := says_def c (d := ⟨(d.x, none), d.x, d.x, d.params, d.body, d.scope, [], []⟩) (List.mem_map.mpr ⟨d, hd, rfl⟩)
    exact ⟨fd, F, FunD.bindsN F (hb d hd)⟩
  · exact He.glo_ok X N (says_fact c (List.mem_append_left _ (List.mem_map.mpr ⟨d, hd, rfl⟩)))
  · exact He.free_ok X N (says_fact c (List.mem_append_right _ (List.mem_map.mpr ⟨x, hx, rfl⟩)))
  · exact conB_ok X N (List.all_eq_true.mp e q hq)
end L2.PV
set_option Elab.async false
set_option linter.all false
set_option maxRecDepth 100000
set_option maxHeartbeats 4000000
namespace L2.PV
open PySem PySem.Spec PyProof.Rows
/-! ### the law at the end -/
def script (ns : List Int) : Dat := scD (ns.map .int)
theorem rpa_ints {K : PySem.W.Frag} {G : Str → Option Addr} {F : Hp} : ∀ ns : List Int, RpA K G F (ns.map V.int) (ns.map PyData.int)
  | [] => .nil
  | n :: ns => .cons (.int n) (rpa_ints ns)
def exN : Dat → Value → Option Addr → Hp → Prop := fun _ _ _ _ => True
/-- nothing is let out -/
theorem fnok_X0 {P : Program} {w : World} {K : PySem.W.Frag} {mg : Str → Option Value} {base : Heap} {k : Nat} {f : Addr} {fd : FuncData} {ps : List Str} {sp : Sp} (F : FnOk P w K mg base (L2.CX P w) k f fd ps sp) :
    FnOk P w K mg base L2.CX0 k f fd ps (fun vs H Q _ => sp vs H Q fun _ _ _ => False) := by
  refine ⟨fun vs H Q E h => F.len vs H Q _ h, fun A outer s H args us vs Q E hr he hb hv h => ?_⟩
  refine codeAny_mono (F.run A outer s H args us vs Q _ hr he hb hv h) fun r s' hq => ?_
  cases r with
  | error e =>
    obtain ⟨_, _, _, _, _, _, _, _, _, _, _, _, z⟩ := hq
    exact z.elim
  | ok fl => cases fl <;> exact hq
theorem law_sp {K : PySem.W.Frag} {p : Pg} {k : Nat} {d : DefE} (hio : d.sg.io = none) (hown : d.sg.own = false) (hnp : d.sg.np = 1) (hlaw : ∀ ns : List Int, ns.length ≤ 63 → p.sem k d.x [script ns] = .ok (.bool true) .none) :
    ∀ (H : Hp) (a : Addr) (ns : List Int), ns.length ≤ 63 → Only H → SqL K H a (ns.map V.int) → spF K (Gof p K) exN d.sg (p.sem k d.x) [.ref a] H (fun v _ => v = .bl true) fun _ _ _ => False := fun H a ns hl _ hS => by
  refine ⟨hnp.symm, H, [script ns], none, Same.refl _, ?_, ?_⟩
  · rw [hio]
    exact ⟨rfl, .one (.scr hS (rpa_ints ns))⟩
  · rw [hlaw ns hl]
    intro v H' F' af rr
    unfold resR at rr
    rw [hown, if_neg Bool.false_ne_true] at rr
    cases rr
    rfl
theorem pg_facts {P : Program} {w : World} {p : Pg} {K : PySem.W.Frag} {h : Heap} {mg : Str → Option Value} {f : Addr} {d : DefE} {x : Str} (hd : d ∈ p.defs) (hp : d.ps = [x]) (X : K.In h) (N : h.Ns mainGlobals mg) (hfa : mg d.x = some (.ref f)) (c : He.SaysD (faE p) (fnE p) K) (e : exE p K = true) (hb : ∀ d ∈ p.defs, BindN d) (wf : p.defs.all DefE.wf = true) (hnd : (p.defs.map (·.x)).Nodup) (k : Nat) :
    ∃ fd : FuncData, (∀ (s : Shared) (u : Value), BindsTo s fd ⟨[u], []⟩ [(x, u)]) ∧ ∀ base : Heap, K.In base → base.Ns mainGlobals mg → FnOk P w K mg base L2.CX0 k f fd [x] (fun vs H Q _ => spF K (Gof p K) exN d.sg (p.sem k d.x) vs H Q fun _ _ _ => False) := by
  have o := pgOk X N c e hb wf
  have ef := hfa.symm.trans (o.mgF d hd)
  cases ef
  obtain ⟨fd, F⟩ := says_def c (d := ⟨(d.x, none), d.x, d.x, d.params, d.body, d.scope, [], []⟩) (List.mem_map.mpr ⟨d, hd, rfl⟩)
  have hbd := hb d hd
  have b := FunD.bindsA (ps := d.ps) F hbd
  refine ⟨fd, fun s u => ?_, fun base _ _ => ?_⟩
  · have := b s [u] (by rw [hp]; rfl)
    rw [hp] at this
    exact this
  · obtain ⟨fd', F', B', ok⟩ := Pg.ok (P := P) (w := w) (base := base) (ex := exN) o hnd k d hd
    have : fd' = fd := by
      obtain ⟨_, _, _, _, _, _, _, _, _, _, _, l1, _⟩ := F.ex
      obtain ⟨_, _, _, _, _, _, _, _, _, _, _, l2, _⟩ := F'.ex
      have e3 : He.fAd K (d.x, none) = He.ga K d.x := rfl
      rw [e3] at l1
      rw [l1] at l2
      injection l2 with l2
      injection l2 with _ _ l2 _
      injection l2 with l2
      exact l2.symm
    subst this
    rw [hp] at ok
    exact fnok_X0 ok
end L2.PV
set_option Elab.async false
set_option linter.all false
set_option maxRecDepth 100000
set_option maxHeartbeats 4000000
namespace L2.PV
open PySem PySem.Spec PyProof.Rows
/-! ### data of a Lean type: pairs and lists are tuples -/
class Enc (α : Type) [DecidableEq α] where
  enc : α → Dat
  eqv : ∀ a b, PyData.eqv (enc a) (enc b) = decide (a = b)
  lay : ∀ a, (enc a).canLay0 = true
  dep : Nat
  dle : ∀ a, (enc a).depth ≤ dep
  alk : ∀ a b, PySem.W.alike (enc a) (enc b) = true
  nn : ∀ a, notNone (enc a) = true
  lfe : ∀ a, lf (enc a) = true
open Enc (enc)
instance : Enc Int where
  enc := .int
  eqv a b := by simp only [PyData.eqv]; rw [Bool.eq_iff_iff, beq_iff_eq, decide_eq_true_eq]
  lay _ := by simp only [PyData.canLay0]
  dep := 0
  dle _ := by simp only [PyData.depth]; exact Nat.le_refl _
  alk _ _ := by simp only [PySem.W.alike]
  nn _ := rfl
  lfe _ := rfl
instance : Enc Bool where
  enc := .bool
  eqv a b := by simp only [PyData.eqv]; rw [Bool.eq_iff_iff, beq_iff_eq, decide_eq_true_eq]
  lay _ := by simp only [PyData.canLay0]
  dep := 0
  dle _ := by simp only [PyData.depth]; exact Nat.le_refl _
  alk _ _ := by simp only [PySem.W.alike]
  nn _ := rfl
  lfe _ := rfl
section
variable {α β : Type} [DecidableEq α] [Enc α] [DecidableEq β] [Enc β]
theorem eqv_all : ∀ xs ys : List α, PyData.eqvAll (xs.map enc) (ys.map enc) = decide (xs = ys)
  | [], [] => by simp [PyData.eqvAll]
  | [], y :: ys => by simp [PyData.eqvAll]
  | x :: xs, [] => by simp [PyData.eqvAll]
  | x :: xs, y :: ys => by
    rw [List.map_cons, List.map_cons, PyData.eqvAll, Enc.eqv, eqv_all xs ys]
    rw [Bool.eq_iff_iff]
    simp
theorem lay_all : ∀ xs : List α, PyData.canLayAll0 (xs.map enc) = true
  | [] => by simp [PyData.canLayAll0]
  | x :: xs => by rw [List.map_cons, PyData.canLayAll0, Enc.lay, lay_all xs]; rfl
theorem dep_all : ∀ xs : List α, PyData.depthAll (xs.map enc) ≤ Enc.dep α
  | [] => by simp [PyData.depthAll]
  | x :: xs => by rw [List.map_cons, PyData.depthAll]; exact Nat.max_le.mpr ⟨Enc.dle x, dep_all xs⟩
theorem alk_all : ∀ xs ys : List α, PySem.W.alikeAll (xs.map enc) (ys.map enc) = true
  | [], _ => by simp [PySem.W.alikeAll]
  | x :: xs, [] => by simp [PySem.W.alikeAll]
  | x :: xs, y :: ys => by rw [List.map_cons, List.map_cons, PySem.W.alikeAll, Enc.alk, alk_all xs ys]; rfl
theorem lfs_all : ∀ xs : List α, lfs (xs.map enc) = true
  | [] => by simp [lfs]
  | x :: xs => by rw [List.map_cons, lfs, Enc.lfe, lfs_all xs]; rfl
end
instance {α : Type} [DecidableEq α] [Enc α] : Enc (List α) where
  enc xs := .tuple (xs.map enc)
  eqv a b := by simp only [PyData.eqv]; exact eqv_all a b
  lay a := by simp only [PyData.canLay0]; exact lay_all a
  dep := Enc.dep α + 1
  dle a := by simp only [PyData.depth]; exact Nat.succ_le_succ (dep_all a)
  alk a b := by simp only [PySem.W.alike]; exact alk_all a b
  nn _ := rfl
  lfe a := by show lf (.tuple (a.map enc)) = true; rw [lf]; exact lfs_all a
instance {α β : Type} [DecidableEq α] [Enc α] [DecidableEq β] [Enc β] : Enc (α × β) where
  enc p := .tuple [enc p.1, enc p.2]
  eqv a b := by
    simp only [PyData.eqv, PyData.eqvAll, Enc.eqv]
    rw [Bool.eq_iff_iff]
    simp [Prod.ext_iff]
  lay a := by simp [PyData.canLay0, PyData.canLayAll0, Enc.lay]
  dep := max (Enc.dep α) (Enc.dep β) + 1
  dle a := by
    simp only [PyData.depth, PyData.depthAll]
    have h1 := Enc.dle a.1
    have h2 := Enc.dle a.2
    omega
  alk a b := by simp [PySem.W.alike, PySem.W.alikeAll, Enc.alk]
  nn _ := rfl
  lfe a := by show lf (.tuple [enc a.1, enc a.2]) = true; rw [lf, lfs, lfs, lfs, Enc.lfe, Enc.lfe]; rfl
section
variable {α β : Type} [DecidableEq α] [Enc α] [DecidableEq β] [Enc β]
theorem enc_int (i : Int) : enc i = .int i := rfl
theorem enc_bool (i : Bool) : enc i = .bool i := rfl
theorem enc_pair (p : α × β) : enc p = .tuple [enc p.1, enc p.2] := rfl
theorem enc_list (xs : List α) : enc xs = .tuple (xs.map enc) := rfl
theorem shaped_of {d : Dat} (h1 : d.canLay0 = true) (h2 : d.depth ≤ 64) : shaped d = true := by
  show (d.canLay0 && decide (d.depth ≤ 64)) = true
  rw [h1, decide_eq_true h2]; rfl
theorem shaped_enc (h : Enc.dep α ≤ 64) (a : α) : shaped (enc a) = true := shaped_of (Enc.lay a) (Nat.le_trans (Enc.dle a) h)
theorem shaped_lst (h : Enc.dep α + 1 ≤ 64) (xs : List α) : shaped (.list (xs.map enc)) = true := shaped_of (by simp only [PyData.canLay0]; exact lay_all xs) (by
  simp only [PyData.depth]; have := dep_all xs; omega)
theorem hEq_enc (h : Enc.dep α ≤ 64) (a b : α) : hEq (enc a) (enc b) = some (.bool (decide (a = b))) := by
  unfold hEq; rw [shaped_enc h, shaped_enc h, Enc.eqv]; rfl
theorem hNe_enc (h : Enc.dep α ≤ 64) (a b : α) : hNe (enc a) (enc b) = some (.bool (!decide (a = b))) := by
  unfold hNe; rw [shaped_enc h, shaped_enc h, Enc.eqv]; rfl
theorem hEq_lst (h : Enc.dep α + 1 ≤ 64) (xs ys : List α) : hEq (.list (xs.map enc)) (.list (ys.map enc)) = some (.bool (decide (xs = ys))) := by
  unfold hEq; rw [shaped_lst h, shaped_lst h]
  simp only [PyData.eqv, eqv_all]
  rfl
theorem hEq_nil (h : Enc.dep α + 1 ≤ 64) (xs : List α) : hEq (.list (xs.map enc)) (.list []) = some (.bool (decide (xs = []))) := hEq_lst h xs []
theorem inD_enc (a : α) (xs : List α) : inD (enc a) (xs.map enc) = decide (a ∈ xs) := by
  unfold inD
  rw [List.any_map, Bool.eq_iff_iff, List.any_eq_true, decide_eq_true_eq]
  constructor
  · rintro ⟨x, hx, h⟩
    have h : PyData.eqv (enc x) (enc a) = true := h
    rw [Enc.eqv, decide_eq_true_eq] at h
    rw [← h]; exact hx
  · intro h
    exact ⟨a, h, by show PyData.eqv (enc a) (enc a) = true; rw [Enc.eqv, decide_eq_true rfl]⟩
theorem hIn_tup (h : Enc.dep α + 1 ≤ 64) (a : α) (xs : List α) : hIn (enc a) (.tuple (xs.map enc)) = some (.bool (decide (a ∈ xs))) := by
  have h1 := shaped_enc (α := α) (by omega) a
  have h2 := shaped_enc (α := List α) (by show Enc.dep α + 1 ≤ 64; exact h) xs
  have h2 : shaped (.tuple (xs.map enc)) = true := h2
  unfold hIn
  split
  · rename_i e; cases e
  · rename_i e; cases e; rw [h1, h2, inD_enc]; rfl
  · rename_i e; cases e
  · rename_i n1 n2 n3; exact (n2 _ rfl).elim
theorem hNotIn_tup (h : Enc.dep α + 1 ≤ 64) (a : α) (xs : List α) : hNotIn (enc a) (.tuple (xs.map enc)) = some (.bool (!decide (a ∈ xs))) := by
  have h1 := shaped_enc (α := α) (by omega) a
  have h2 := shaped_enc (α := List α) (by show Enc.dep α + 1 ≤ 64; exact h) xs
  have h2 : shaped (.tuple (xs.map enc)) = true := h2
  unfold hNotIn
  split
  · rename_i e; cases e
  · rename_i e; cases e; rw [h1, h2, inD_enc]; rfl
  · rename_i e; cases e
  · rename_i n1 n2 n3; exact (n2 _ rfl).elim
theorem hIn_lst (h : Enc.dep α + 1 ≤ 64) (a : α) (xs : List α) : hIn (enc a) (.list (xs.map enc)) = some (.bool (decide (a ∈ xs))) := by
  have h1 := shaped_enc (α := α) (by omega) a
  have h2 := shaped_lst h xs
  unfold hIn
  split
  · rename_i e; cases e; rw [h1, h2, inD_enc]; rfl
  · rename_i e; cases e
  · rename_i e; cases e
  · rename_i n1 n2 n3; exact (n1 _ rfl).elim
def leT (a b : α) : Bool := PySem.W.dataLe false id (enc a) (enc b)
noncomputable def sortT (xs : List α) : List α := xs.mergeSort leT
theorem sortD_enc (xs : List α) : sortD (xs.map enc) = (sortT xs).map enc := (List.map_mergeSort (f := enc) (r := leT) (s := PySem.W.dataLe false id) (l := xs) fun a _ b _ => rfl).symm
theorem sortT_perm (xs : List α) : (sortT xs).Perm xs := List.mergeSort_perm xs _
theorem sortT_len (xs : List α) : (sortT xs).length = xs.length := List.length_mergeSort _
theorem sortT_mem {xs : List α} {a : α} : a ∈ sortT xs ↔ a ∈ xs := (sortT_perm xs).mem_iff
theorem leT_total : PySem.W.TotalLe (leT (α := α)) := by
  have := PySem.W.sortLe_total (PyProof.Rows.listOrd PyProof.Rows.itemOrd) false (fun a : α => PySem.W.keyToks (enc a))
  exact this
theorem sortT_sorted (xs : List α) : (sortT xs).Pairwise fun a b => leT a b = true := List.pairwise_mergeSort (fun a b c h1 h2 => leT_total.trans a b c h1 h2) (fun a b => by
  have := leT_total.total a b
  simpa using this) xs
theorem sortable_enc (h : Enc.dep α ≤ 64) (xs : List α) (hl : xs.length ≤ lineN) (ht : xs.length < 2 ∨ (∀ a ∈ xs, isTup1 (enc a) = true) ∨ ∀ a ∈ xs, isTup (enc a) = false) : sortable (xs.map enc) = true := by
  unfold sortable
  have h1 : alikeAllB (xs.map enc) = true := by
    unfold alikeAllB
    rw [List.all_eq_true]
    intro d hd
    rw [List.all_eq_true]
    intro e he
    obtain ⟨a, _, rfl⟩ := List.mem_map.mp hd
    obtain ⟨b, _, rfl⟩ := List.mem_map.mp he
    exact Enc.alk a b
  have h2 : (xs.map enc).all notNone = true := by rw [List.all_map, List.all_eq_true]; exact fun a _ => Enc.nn a
  have h3 : (xs.map enc).all shaped = true := by rw [List.all_map, List.all_eq_true]; exact fun a _ => shaped_enc h a
  rw [h1, h2, h3, List.length_map, decide_eq_true hl]
  rcases ht with ht | ht | ht
  · rw [decide_eq_true ht]; rfl
  · have : (xs.map enc).all isTup1 = true := by rw [List.all_map, List.all_eq_true]; exact ht
    rw [this]; simp
  · have : ((xs.map enc).all fun d => !isTup d) = true := by rw [List.all_map, List.all_eq_true]; exact fun a ha => by show (!isTup (enc a)) = true; rw [ht a ha]; rfl
    rw [this]; simp
theorem hSorted_enc (h : Enc.dep α ≤ 64) (xs : List α) (hl : xs.length ≤ lineN) (ht : xs.length < 2 ∨ (∀ a ∈ xs, isTup1 (enc a) = true) ∨ ∀ a ∈ xs, isTup (enc a) = false) : hSorted1 [.list (xs.map enc)] = some (.list ((sortT xs).map enc)) := by
  show (if sortable (xs.map enc) = true then some (PyData.list (sortD (xs.map enc))) else none) = _
  rw [if_pos (sortable_enc h xs hl ht), sortD_enc]
end
/-! ### walks of comprehensions and loops, at values of a Lean type -/
section
variable {α β : Type}
theorem compR_ok {f : Tg} {t : M Bool} {e : M Dat} {vs : List Nat} {ρw : Env} (en : α → Dat) (ρd : α → Env) (tb : α → Bool) (y : α → Dat) : ∀ (xs : List α), (∀ x ∈ xs, f (en x) ρw = some (ρd x)) → (∀ x ∈ xs, t (ρd x) = .ok (tb x) (ρd x)) → (∀ x ∈ xs, tb x = true → e (ρd x) = .ok (y x) (ρd x)) → (∀ x ∈ xs, wipeE (ρd x) vs = ρw) →
    compR f t e vs (xs.map en) ρw = .ok ((xs.filter tb).map y) ρw
  | [], _, _, _, _ => rfl
  | x :: xs, h1, h2, h3, h4 => by
    have ih := compR_ok en ρd tb y xs (fun z hz => h1 z (List.mem_cons_of_mem _ hz)) (fun z hz => h2 z (List.mem_cons_of_mem _ hz)) (fun z hz => h3 z (List.mem_cons_of_mem _ hz)) (fun z hz => h4 z (List.mem_cons_of_mem _ hz))
    have m := List.mem_cons_self (a := x) (l := xs)
    rw [List.map_cons]
    unfold compR
    rw [h1 x m]
    dsimp only
    rw [h2 x m]
    cases c : tb x with
    | true =>
      dsimp only
      rw [h3 x m c]
      dsimp only
      rw [h4 x m, ih, List.filter_cons_of_pos c]
      rfl
    | false =>
      dsimp only
      rw [h4 x m, ih, List.filter_cons_of_neg (by rw [c]; exact Bool.false_ne_true)]
theorem cLc_ok {gi : M (List Dat)} {f : Tg} {t : M Bool} {e : M Dat} {vs : List Nat} {ρ ρw : Env} (en : α → Dat) (ρd : α → Env) (tb : α → Bool) (y : α → Dat) (xs : List α) (hg : gi ρ = .ok (xs.map en) ρ) (hw : wipeE ρ vs = ρw) (hb : backE ρ ρw vs = ρ) (hl : xs.length ≤ lineN)
    (h1 : ∀ x ∈ xs, f (en x) ρw = some (ρd x)) (h2 : ∀ x ∈ xs, t (ρd x) = .ok (tb x) (ρd x)) (h3 : ∀ x ∈ xs, tb x = true → e (ρd x) = .ok (y x) (ρd x)) (h4 : ∀ x ∈ xs, wipeE (ρd x) vs = ρw) :
    cLc gi f t e vs ρ = .ok (.list ((xs.filter tb).map y)) ρ := by
  unfold cLc M.bind
  rw [hg]
  dsimp only
  rw [hw, compR_ok en ρd tb y xs h1 h2 h3 h4]
  dsimp only
  rw [List.length_map, if_pos (Nat.le_trans (List.length_filter_le _ _) hl), hb]
/-- all taken -/
theorem cLc_map {gi : M (List Dat)} {f : Tg} {e : M Dat} {vs : List Nat} {ρ ρw : Env} (en : α → Dat) (ρd : α → Env) (y : α → Dat) (xs : List α) (hg : gi ρ = .ok (xs.map en) ρ) (hw : wipeE ρ vs = ρw) (hb : backE ρ ρw vs = ρ) (hl : xs.length ≤ lineN)
    (h1 : ∀ x ∈ xs, f (en x) ρw = some (ρd x)) (h3 : ∀ x ∈ xs, e (ρd x) = .ok (y x) (ρd x)) (h4 : ∀ x ∈ xs, wipeE (ρd x) vs = ρw) :
    cLc gi f (M.pure true) e vs ρ = .ok (.list (xs.map y)) ρ := by
  have := cLc_ok (t := M.pure true) en ρd (fun _ => true) y xs hg hw hb hl h1 (fun _ _ => rfl) (fun x hx _ => h3 x hx) h4
  rw [List.filter_eq_self.mpr (fun _ _ => rfl)] at this
  exact this
theorem compR2_ok {f : Tg} {inner : M (List Dat)} {vs : List Nat} {ρw : Env} (en : α → Dat) (ρd ρe : α → Env) (y : α → List Dat) : ∀ (xs : List α), (∀ x ∈ xs, f (en x) ρw = some (ρd x)) → (∀ x ∈ xs, inner (ρd x) = .ok (y x) (ρe x)) → (∀ x ∈ xs, wipeE (ρe x) vs = ρw) →
    compR2 f (M.pure true) inner vs (xs.map en) ρw = .ok (xs.flatMap y) ρw
  | [], _, _, _ => rfl
  | x :: xs, h1, h2, h3 => by
    have ih := compR2_ok en ρd ρe y xs (fun z hz => h1 z (List.mem_cons_of_mem _ hz)) (fun z hz => h2 z (List.mem_cons_of_mem _ hz)) (fun z hz => h3 z (List.mem_cons_of_mem _ hz))
    have m := List.mem_cons_self (a := x) (l := xs)
    rw [List.map_cons]
    unfold compR2
    rw [h1 x m]
    dsimp only [M.pure]
    rw [h2 x m]
    dsimp only
    rw [h3 x m, ih, List.flatMap_cons]
theorem cLc2_ok {gi : M (List Dat)} {f : Tg} {inner : M (List Dat)} {vs : List Nat} {ρ ρw : Env} (en : α → Dat) (ρd ρe : α → Env) (y : α → List Dat) (xs : List α) (hg : gi ρ = .ok (xs.map en) ρ) (hw : wipeE ρ vs = ρw) (hb : backE ρ ρw vs = ρ) (hl : (xs.flatMap y).length ≤ lineN)
    (h1 : ∀ x ∈ xs, f (en x) ρw = some (ρd x)) (h2 : ∀ x ∈ xs, inner (ρd x) = .ok (y x) (ρe x)) (h3 : ∀ x ∈ xs, wipeE (ρe x) vs = ρw) :
    cLc2 gi f (M.pure true) inner vs ρ = .ok (.list (xs.flatMap y)) ρ := by
  unfold cLc2 M.bind
  rw [hg]
  dsimp only
  rw [hw, compR2_ok en ρd ρe y xs h1 h2 h3]
  dsimp only
  rw [if_pos hl, hb]
theorem cIn_ok {gi : M (List Dat)} {f : Tg} {e : M Dat} {vs : List Nat} {ρ ρw : Env} (en : β → Dat) (ρd : β → Env) (y : β → Dat) (xs : List β) (hg : gi ρ = .ok (xs.map en) ρ) (hw : wipeE ρ vs = ρw)
    (h1 : ∀ x ∈ xs, f (en x) ρw = some (ρd x)) (h3 : ∀ x ∈ xs, e (ρd x) = .ok (y x) (ρd x)) (h4 : ∀ x ∈ xs, wipeE (ρd x) vs = ρw) :
    cIn gi f (M.pure true) e vs ρ = .ok (xs.map y) ρw := by
  unfold cIn M.bind
  rw [hg]
  dsimp only
  rw [hw]
  have := compR_ok (t := M.pure true) en ρd (fun _ => true) y xs h1 (fun _ _ => rfl) (fun x hx _ => h3 x hx) h4
  rw [List.filter_eq_self.mpr (fun _ _ => rfl)] at this
  exact this
/-- a loop that runs to its end: the state s, told as an environment -/
theorem forL_ok {τ : Type} {f : Tg} {b : MS} (en : α → Dat) (ev : τ → Env) (nx : τ → α → τ) : ∀ (xs : List α) (s : τ), (∀ s x, x ∈ xs → ∃ ρ1, f (en x) (ev s) = some ρ1 ∧ b ρ1 = .nx (ev (nx s x))) → forL f b (xs.map en) (ev s) = .nx (ev (xs.foldl nx s))
  | [], s, _ => rfl
  | x :: xs, s, h => by
    obtain ⟨ρ1, h1, h2⟩ := h s x (List.mem_cons_self ..)
    rw [List.map_cons]
    unfold forL
    rw [h1]
    dsimp only
    rw [h2]
    exact forL_ok en ev nx xs _ fun s z hz => h s z (List.mem_cons_of_mem _ hz)
/-- with what stays true of the state -/
theorem forL_inv {τ : Type} {f : Tg} {b : MS} (en : α → Dat) (ev : τ → Env) (P : τ → Prop) : ∀ (xs : List α) (s : τ), P s → (∀ s x, x ∈ xs → P s → ∃ ρ1 s', f (en x) (ev s) = some ρ1 ∧ b ρ1 = .nx (ev s') ∧ P s') → ∃ s', forL f b (xs.map en) (ev s) = .nx (ev s') ∧ P s'
  | [], s, p, _ => ⟨s, rfl, p⟩
  | x :: xs, s, p, h => by
    obtain ⟨ρ1, s', h1, h2, p'⟩ := h s x (List.mem_cons_self ..) p
    rw [List.map_cons]
    unfold forL
    rw [h1]
    dsimp only
    rw [h2]
    exact forL_inv en ev P xs s' p' fun s z hz => h s z (List.mem_cons_of_mem _ hz)
end
theorem sem_at {p : Pg} {k : Nat} {x : Str} {d : DefE} {b : MS} (h : p.defs.find? (fun d => decide (d.x = x)) = some d) (hb : bodyM p (p.sem k) d = b) : p.sem (k + 1) x = runG d.sg d.N.length b := by
  show (match p.defs.find? (fun d => decide (d.x = x)) with
    | some d => runG d.sg d.N.length (bodyM p (p.sem k) d)
    | none => fun _ => .stuck) = _
  rw [h]
  dsimp only
  rw [hb]
end L2.PV
set_option Elab.async false
set_option linter.all false
set_option maxRecDepth 100000
set_option maxHeartbeats 4000000
namespace L2.PV
open PySem PySem.Spec PyProof.Rows
open Enc (enc)
/-! ### running a meaning: each part at its state, in order -/
def R.bd {α β : Type} (o : R α) (k : α → Env → R β) : R β := match o with
  | .ok a ρ => k a ρ
  | .stuck => .stuck
  | .exc x ρ => .exc x ρ
def R.sb {α : Type} (o : R α) (k : α → Env → RS) : RS := match o with
  | .ok a ρ => k a ρ
  | .stuck => .stuck
  | .exc x ρ => .exc x ρ
def RS.tn (o : RS) (k : Env → RS) : RS := match o with
  | .nx ρ => k ρ
  | o => o
def R.lo {α : Type} (o : Option α) (ρ : Env) : R α := match o with
  | some a => .ok a ρ
  | none => .stuck
def RS.lo (o : Option Env) : RS := match o with
  | some ρ => .nx ρ
  | none => .stuck
def vr (ρ : Env) (i : Nat) : Option Dat := match ρ[i]? with
  | some (some d) => some d
  | _ => none
section
variable {α β : Type} {a : α} {ρ : Env}
theorem bd_ok {k : α → Env → R β} : (R.ok a ρ).bd k = k a ρ := Eq.trans rfl rfl
theorem sb_ok {k : α → Env → RS} : (R.ok a ρ).sb k = k a ρ := Eq.trans rfl rfl
theorem tn_nx {k : Env → RS} : (RS.nx ρ).tn k = k ρ := Eq.trans rfl rfl
theorem tn_rt {k : Env → RS} {d : Dat} : (RS.rt d ρ).tn k = .rt d ρ := Eq.trans rfl rfl
theorem tn_bk {k : Env → RS} : (RS.bk ρ).tn k = .bk ρ := Eq.trans rfl rfl
theorem tn_ct {k : Env → RS} : (RS.ct ρ).tn k = .ct ρ := Eq.trans rfl rfl
theorem lo_some : R.lo (some a) ρ = .ok a ρ := Eq.trans rfl rfl
theorem slo_some : RS.lo (some ρ) = .nx ρ := Eq.trans rfl rfl
theorem bind_bd {g : M α} {k : α → M β} : M.bind g k ρ = (g ρ).bd k := by unfold M.bind R.bd; cases g ρ <;> rfl
end
variable {ρ : Env}
theorem vr0 {d : Dat} : vr (some d :: ρ) 0 = some d := Eq.trans rfl rfl
theorem vrS {o : Option Dat} {i : Nat} : vr (o :: ρ) (i + 1) = vr ρ i := Eq.trans rfl rfl
theorem ap_var {i : Nat} : cVar i ρ = R.lo (vr ρ i) ρ := by
  unfold cVar vr R.lo
  split <;> simp_all
theorem ap_const {d : Dat} : cConst d ρ = .ok d ρ := Eq.trans rfl rfl
theorem ap_pure {α : Type} {a : α} : M.pure a ρ = .ok a ρ := Eq.trans rfl rfl
theorem ap_bin {h : Dat → Dat → Option Dat} {ga gb : M Dat} : cBin h ga gb ρ = (ga ρ).bd fun a ρ1 => (gb ρ1).bd fun b ρ2 => R.lo (h a b) ρ2 := by
  unfold cBin
  rw [bind_bd]
  congr 1
  funext a ρ1
  rw [bind_bd]
  rfl
theorem ap_nil : cNil ρ = .ok [] ρ := Eq.trans rfl rfl
theorem ap_cons {g : M Dat} {gs : M (List Dat)} : cCons g gs ρ = (g ρ).bd fun d ρ1 => (gs ρ1).bd fun ds ρ2 => .ok (d :: ds) ρ2 := by
  unfold cCons
  rw [bind_bd]
  congr 1
  funext a ρ1
  rw [bind_bd]
  rfl
theorem ap_star {g : M Dat} {gs : M (List Dat)} : cStar g gs ρ = (g ρ).bd fun d ρ1 => (R.lo (itemsOf d) ρ1).bd fun es ρ2 => (gs ρ2).bd fun ds ρ3 => .ok (es ++ ds) ρ3 := by
  unfold cStar
  rw [bind_bd]
  congr 1
  funext a ρ1
  rw [bind_bd]
  congr 1
  funext a ρ1
  rw [bind_bd]
  rfl
theorem ap_tup {gs : M (List Dat)} : cTup gs ρ = (gs ρ).bd fun ds ρ1 => R.lo (hTupOf ds) ρ1 := by unfold cTup; rw [bind_bd]; rfl
theorem ap_lst {gs : M (List Dat)} : cLst gs ρ = (gs ρ).bd fun ds ρ1 => R.lo (hLstOf ds) ρ1 := by unfold cLst; rw [bind_bd]; rfl
theorem ap_cb {h : List Dat → Option Dat} {gs : M (List Dat)} : cCB h gs ρ = (gs ρ).bd fun ds ρ1 => R.lo (h ds) ρ1 := by unfold cCB; rw [bind_bd]; rfl
theorem ap_isi {ts : List String} {g : M Dat} : cIsi ts g ρ = (g ρ).bd fun d ρ1 => R.lo (hIsi ts d) ρ1 := by unfold cIsi; rw [bind_bd]; rfl
theorem ap_rgl {gs : M (List Dat)} : cRgL gs ρ = (gs ρ).bd fun ds ρ1 => R.lo ((rgD ds).map .list) ρ1 := by unfold cRgL; rw [bind_bd]; rfl
theorem ap_if {t : M Bool} {ga gb : M Dat} : cIf t ga gb ρ = (t ρ).bd fun c ρ1 => if c then ga ρ1 else gb ρ1 := by
  unfold cIf; rw [bind_bd]; congr 1; funext c ρ1; cases c <;> rfl
theorem ap_not {g : M Dat} : cNot g ρ = (g ρ).bd fun d ρ1 => R.lo ((hTru d).map fun b => .bool (!b)) ρ1 := by unfold cNot; rw [bind_bd]; rfl
def truE (o : Option Bool) (a b : R Dat) : R Dat := match o with
  | some true => a
  | some false => b
  | none => .stuck
theorem tru_t {a b : R Dat} : truE (some true) a b = a := Eq.trans rfl rfl
theorem tru_f {a b : R Dat} : truE (some false) a b = b := Eq.trans rfl rfl
theorem ap_or {ga gb : M Dat} : cOr ga gb ρ = (ga ρ).bd fun d ρ1 => truE (hTru d) (.ok d ρ1) (gb ρ1) := by
  unfold cOr; rw [bind_bd]; congr 1; funext d ρ1; unfold truE; split <;> simp_all [M.pure]
theorem ap_and {ga gb : M Dat} : cAnd ga gb ρ = (ga ρ).bd fun d ρ1 => truE (hTru d) (gb ρ1) (.ok d ρ1) := by
  unfold cAnd; rw [bind_bd]; congr 1; funext d ρ1; unfold truE; split <;> simp_all [M.pure]
theorem ap_toB {g : M Dat} : toB g ρ = (g ρ).bd fun d ρ1 => R.lo (hTru d) ρ1 := by unfold toB; rw [bind_bd]; rfl
theorem ap_bNot {t : M Bool} : bNot t ρ = (t ρ).bd fun c ρ1 => .ok (!c) ρ1 := by unfold bNot; rw [bind_bd]; rfl
theorem ap_bAnd {s t : M Bool} : bAnd s t ρ = (s ρ).bd fun c ρ1 => if c then t ρ1 else .ok false ρ1 := by
  unfold bAnd; rw [bind_bd]; congr 1; funext c ρ1; cases c <;> rfl
theorem ap_bOr {s t : M Bool} : bOr s t ρ = (s ρ).bd fun c ρ1 => if c then .ok true ρ1 else t ρ1 := by
  unfold bOr; rw [bind_bd]; congr 1; funext c ρ1; cases c <;> rfl
theorem ap_bCmp {h : Dat → Dat → Option Dat} {ga gb : M Dat} : bCmp h ga gb ρ = (ga ρ).bd fun a ρ1 => (gb ρ1).bd fun b ρ2 => R.lo (boolO (h a b)) ρ2 := by
  unfold bCmp
  rw [bind_bd]
  congr 1
  funext a ρ1
  rw [bind_bd]
  rfl
theorem boolO_some' {b : Bool} : boolO (some (.bool b)) = some b := Eq.trans rfl rfl
theorem ap_iE {g : M Dat} : iE g ρ = (g ρ).bd fun d ρ1 => R.lo (drawn d) ρ1 := by unfold iE; rw [bind_bd]; rfl
def rg1 (ds : List Dat) : Option (List Dat) := match ds with
  | [.int j] => if -(2 ^ 62) ≤ j ∧ j < 2 ^ 62 then some (rangeD 0 j.toNat) else none
  | _ => none
def rg2 (ds : List Dat) : Option (List Dat) := match ds with
  | [.int i, .int j] => if (-(2 ^ 62) ≤ i ∧ i < 2 ^ 62) ∧ -(2 ^ 62) ≤ j ∧ j < 2 ^ 62 then some (rangeD i (j - i).toNat) else none
  | _ => none
def en1 (ds : List Dat) : Option (List Dat) := match ds with
  | [.list es] => some (enumD es)
  | _ => none
def zp2 (ds : List Dat) : Option (List Dat) := match ds with
  | [.list es, .list fs] => some (zipD es fs)
  | [.tuple es, .tuple fs] => some (zipD es fs)
  | _ => none
theorem ap_iR1 {gs : M (List Dat)} : iR1 gs ρ = (gs ρ).bd fun ds ρ1 => R.lo (rg1 ds) ρ1 := by unfold iR1; rw [bind_bd]; rfl
theorem ap_iR2 {gs : M (List Dat)} : iR2 gs ρ = (gs ρ).bd fun ds ρ1 => R.lo (rg2 ds) ρ1 := by unfold iR2; rw [bind_bd]; rfl
theorem ap_iEn {gs : M (List Dat)} : iEnumD gs ρ = (gs ρ).bd fun ds ρ1 => R.lo (en1 ds) ρ1 := by unfold iEnumD; rw [bind_bd]; rfl
theorem ap_iZip {gs : M (List Dat)} : iZipD gs ρ = (gs ρ).bd fun ds ρ1 => R.lo (zp2 ds) ρ1 := by unfold iZipD; rw [bind_bd]; rfl
theorem ap_pN : pNone ρ = .ok none ρ := Eq.trans rfl rfl
theorem ap_pS {g : M Dat} : pSome g ρ = (g ρ).bd fun d ρ1 => R.lo ((intOf d).map some) ρ1 := by unfold pSome; rw [bind_bd]; rfl
theorem ap_sl {g : M Dat} {lo hi : M (Option Int)} : cSl g lo hi ρ = (g ρ).bd fun d ρ1 => (lo ρ1).bd fun i ρ2 => (hi ρ2).bd fun j ρ3 => R.lo (hSl d i j) ρ3 := by
  unfold cSl
  rw [bind_bd]
  congr 1
  funext a ρ1
  rw [bind_bd]
  congr 1
  funext a ρ1
  rw [bind_bd]
  rfl
def callE (o : RF) (ρ : Env) : R Dat := match o with
  | .stuck => .stuck
  | .ok d _ => .ok d ρ
  | .exc x _ => .exc x ρ
theorem call_ok {d io : Dat} : callE (.ok d io) ρ = .ok d ρ := Eq.trans rfl rfl
theorem ap_call {φ : FnSem} {gs : M (List Dat)} : cCall φ gs ρ = (gs ρ).bd fun ds ρ1 => callE (φ ds) ρ1 := by
  unfold cCall; rw [bind_bd]; congr 1
def callI (o : RF) (ρ : Env) (i : Nat) : R Dat := match o with
  | .ok d (.list es') => .ok d (ρ.set i (some (.list es')))
  | .exc x (.list es') => .exc x (ρ.set i (some (.list es')))
  | _ => .stuck
theorem callI_ok {d : Dat} {es : List Dat} {i : Nat} : callI (.ok d (.list es)) ρ i = .ok d (ρ.set i (some (.list es))) := Eq.trans rfl rfl
theorem ap_callIo {φ : FnSem} {i j : Nat} {gs : M (List Dat)} : cCallIo φ i j gs ρ = (gs ρ).bd fun ds ρ1 => (R.lo (lst? ρ1 i) ρ1).bd fun es _ => callI (φ (ds.set j (.list es))) ρ1 i := by
  unfold cCallIo; rw [bind_bd]; congr 1; funext ds ρ1
  cases h : lst? ρ1 i with
  | none => rfl
  | some es => rfl
theorem ap_hole {i : Nat} : cHole i ρ = (R.lo (lst? ρ i) ρ).bd fun _ ρ1 => .ok .none ρ1 := by
  unfold cHole
  cases h : lst? ρ i <;> rfl
theorem ls0 {ds : List Dat} : lst? (some (.list ds) :: ρ) 0 = some ds := Eq.trans rfl rfl
theorem lsS {o : Option Dat} {i : Nat} : lst? (o :: ρ) (i + 1) = lst? ρ i := Eq.trans rfl rfl
theorem bor_ok {g : M Dat} {d : Dat} {ρ1 : Env} (h : g ρ = .ok d ρ1) (hl : lf d = true) : cBor g ρ = .ok d ρ := by unfold cBor; rw [h]; dsimp only; rw [if_pos hl]
theorem borO_ok {g : M Dat} {d : Dat} {ρ1 : Env} (h : g ρ = .ok d ρ1) (hl : lfo d = true) : cBorO g ρ = .ok d ρ := by unfold cBorO; rw [h]; dsimp only; rw [if_pos hl]
def borE (o : R Dat) (ρ : Env) : R Dat := match o with
  | .ok d _ => if lf d then .ok d ρ else .stuck
  | .exc x _ => .exc x ρ
  | .stuck => .stuck
theorem ap_bor' {g : M Dat} : cBor g ρ = borE (g ρ) ρ := Eq.trans rfl rfl
theorem borE_int {i : Int} {ρ1 : Env} : borE (.ok (.int i) ρ1) ρ = .ok (.int i) ρ := Eq.trans rfl rfl
theorem borE_bool {i : Bool} {ρ1 : Env} : borE (.ok (.bool i) ρ1) ρ = .ok (.bool i) ρ := Eq.trans rfl rfl
def borT (o : R Bool) (ρ : Env) : R Bool := match o with
  | .ok d _ => .ok d ρ
  | .exc x _ => .exc x ρ
  | .stuck => .stuck
theorem ap_borT {g : M Bool} : cBorT g ρ = borT (g ρ) ρ := Eq.trans rfl rfl
theorem borT_ok {b : Bool} {ρ1 : Env} : borT (.ok b ρ1) ρ = .ok b ρ := Eq.trans rfl rfl
theorem ap_move {i : Nat} : cMove i ρ = (R.lo (vr ρ i) ρ).bd fun d _ => .ok d (ρ.set i none) := by
  unfold cMove vr R.lo
  split <;> simp_all [R.bd]
/-! statements -/
theorem ap_sNil : sNil ρ = .nx ρ := Eq.trans rfl rfl
theorem ap_sPass : sPass ρ = .nx ρ := Eq.trans rfl rfl
theorem ap_seq {a b : MS} : sSeq a b ρ = (a ρ).tn b := by unfold sSeq RS.tn; cases a ρ <;> rfl
theorem sbind_sb {α : Type} {g : M α} {k : α → MS} : sBind g k ρ = (g ρ).sb k := by unfold sBind R.sb; cases g ρ <;> rfl
theorem ap_asg {g : M Dat} {f : Tg} : sAsg g f ρ = (g ρ).sb fun d ρ1 => RS.lo (f d ρ1) := by
  unfold sAsg; rw [sbind_sb]; congr 1
theorem ap_asgs {gs : M (List Dat)} {is : List Nat} : sAsgs gs is ρ = (gs ρ).sb fun ds ρ1 => if ds.length ≤ lineN then .nx (setAll ρ1 is ds) else .stuck := by
  unfold sAsgs; rw [sbind_sb]
theorem ap_ret {g : M Dat} : sRet g ρ = (g ρ).sb fun d ρ1 => .rt d ρ1 := by unfold sRet; rw [sbind_sb]
theorem ap_expr {g : M Dat} : sExpr g ρ = (g ρ).sb fun d ρ1 => .nx ρ1 := by unfold sExpr; rw [sbind_sb]
theorem ap_sIf {t : M Bool} {a b : MS} : sIf t a b ρ = (t ρ).sb fun c ρ1 => if c then a ρ1 else b ρ1 := by
  unfold sIf; rw [sbind_sb]; congr 1; funext c ρ1; cases c <;> rfl
theorem ap_for {gi : M (List Dat)} {f : Tg} {b : MS} : sFor gi f b ρ = (gi ρ).sb fun ds ρ1 => forL f b ds ρ1 := by unfold sFor; rw [sbind_sb]
def setE (ρ : Env) (i : Nat) (d k : Dat) (o : Option (List Dat)) : RS := match k, o with
  | .int k, some ds => match ixN ds.length k with
    | some j => .nx (ρ.set i (some (.list (ds.set j d))))
    | none => .stuck
  | _, _ => .stuck
theorem ap_setIx {i : Nat} {gv gi : M Dat} : sSetIx i gv gi ρ = (gv ρ).sb fun d ρ1 => (R.lo (lst? ρ1 i) ρ1).sb fun _ _ => (gi ρ1).sb fun k ρ2 => setE ρ2 i d k (lst? ρ2 i) := by
  unfold sSetIx; rw [sbind_sb]; congr 1; funext d ρ1
  cases h : lst? ρ1 i with
  | none => rfl
  | some es =>
    dsimp only
    rw [sbind_sb]
    rfl
theorem ap_mut {i : Nat} {u : List Dat → List Dat → Option (List Dat × Dat)} {gs : M (List Dat)} : cMut i u gs ρ = (R.lo (lst? ρ i) ρ).bd fun _ _ => (gs ρ).bd fun es ρ1 => (R.lo (lst? ρ1 i) ρ1).bd fun ds _ => optE ((u ds es).map fun p => (ρ1.set i (some (.list p.1)), p.2)) := by
  unfold cMut
  cases h : lst? ρ i with
  | none => rfl
  | some es =>
    dsimp only [R.lo, R.bd]
    cases h2 : gs ρ with
    | stuck => rfl
    | exc x ρ1 => rfl
    | ok es ρ1 =>
      dsimp only
      cases h3 : lst? ρ1 i <;> rfl
theorem optE_some {d : Dat} : optE (some (ρ, d)) = .ok d ρ := Eq.trans rfl rfl
theorem forL_cons {f : Tg} {b : MS} {d : Dat} {ds : List Dat} : forL f b (d :: ds) ρ = (RS.lo (f d ρ)).tn fun ρ1 => match b ρ1 with
      | .nx ρ2 => forL f b ds ρ2
      | .ct ρ2 => forL f b ds ρ2
      | .bk ρ2 => .nx ρ2
      | o => o := by
  rw [forL]
  cases f d ρ <;> rfl
/-- a def's end -/
theorem runG_rt {sg : Sg} {n : Nat} {s : MS} {ds : List Dat} {d : Dat} {ρ : Env} (hn : ds.length = sg.np) (h : s (startE n ds) = .rt d ρ) : runG sg n s ds = .ok d (ioD sg ρ) := by
  unfold runG runF; rw [if_pos hn, h]
end L2.PV
set_option Elab.async false
set_option linter.all false
set_option maxRecDepth 100000
set_option maxHeartbeats 4000000
namespace L2.PV
open PySem PySem.Spec PyProof.Rows
open Enc (enc)
/-! ### small displays, targets -/
section
variable {a b c d : Dat} {ρ : Env}
theorem tup0 : hTupOf [] = some (.tuple []) := Eq.trans rfl rfl
theorem tup1 : hTupOf [a] = some (.tuple [a]) := Eq.trans rfl rfl
theorem tup2 : hTupOf [a, b] = some (.tuple [a, b]) := Eq.trans rfl rfl
theorem tup3 : hTupOf [a, b, c] = some (.tuple [a, b, c]) := Eq.trans rfl rfl
theorem lst0 : hLstOf [] = some (.list []) := Eq.trans rfl rfl
theorem lst1 : hLstOf [a] = some (.list [a]) := Eq.trans rfl rfl
theorem lst2 : hLstOf [a, b] = some (.list [a, b]) := Eq.trans rfl rfl
theorem lst3 : hLstOf [a, b, c] = some (.list [a, b, c]) := Eq.trans rfl rfl
theorem aTup2 {fs : Tgs} : aTup 2 fs (.tuple [a, b]) ρ = fs [a, b] ρ := Eq.trans rfl rfl
end
def seqD (b : Bool) (ds : List Dat) : Dat := if b then .tuple ds else .list ds
theorem drawn_seq {b : Bool} {ds : List Dat} : drawn (seqD b ds) = some ds := by cases b <;> rfl
theorem drawn_l {ds : List Dat} : drawn (.list ds) = some ds := Eq.trans rfl rfl
theorem drawn_t {ds : List Dat} : drawn (.tuple ds) = some ds := Eq.trans rfl rfl
theorem itemsOf_t {ds : List Dat} : itemsOf (.tuple ds) = some ds := Eq.trans rfl rfl
theorem add_ll {xs ys : List Dat} (h : xs.length + ys.length ≤ lineN) : hAdd (.list xs) (.list ys) = some (.list (xs ++ ys)) := by
  show (if xs.length + ys.length ≤ lineN then some (PyData.list (xs ++ ys)) else none) = _
  rw [if_pos h]
theorem add_tt {xs ys : List Dat} (h : xs.length + ys.length ≤ lineN) : hAdd (.tuple xs) (.tuple ys) = some (.tuple (xs ++ ys)) := by
  show (if xs.length + ys.length ≤ lineN then some (PyData.tuple (xs ++ ys)) else none) = _
  rw [if_pos h]
theorem add_ii {i j : Int} : hAdd (.int i) (.int j) = some (.int (i + j)) := Eq.trans rfl rfl
theorem sub_ii {i j : Int} : hSub (.int i) (.int j) = some (.int (i - j)) := Eq.trans rfl rfl
theorem tupOf_ok {ds : List Dat} (h : ds.length ≤ lineN) : hTupOf ds = some (.tuple ds) := if_pos h
/-! ### all pairs -/
def b_pairs (φ : Str → FnSem) : MS := sSeq (sAsg (cLst (cNil)) (aName 2)) (sSeq (sFor (iE (cVar 0)) (aName 3) (sSeq (sAsg (cBin hAdd (cVar 2) (cLc (iE (cVar 1)) (aName 4) (M.pure true) (cTup (cCons (cVar 3) (cCons (cVar 4) (cNil)))) [4])) (aName 2)) (sNil))) (sSeq (sRet (cVar 2)) (sNil)))
theorem pairs_ok {α β : Type} {φ : Str → FnSem} (en : α → Dat) (em : β → Dat) (b c : Bool) (xs : List α) (ys : List β) (hl : xs.length * ys.length ≤ lineN) (hy : ys.length ≤ lineN) :
    runG ⟨2, none, false⟩ 5 (b_pairs φ) [seqD b (xs.map en), seqD c (ys.map em)] = .ok (.list (xs.flatMap fun x => ys.map fun y => .tuple [en x, em y])) .none := by
  have loop : ∀ (zs : List α) (acc : List Dat) (o : Option Dat), acc.length + zs.length * ys.length ≤ lineN → ∃ o', forL (aName 3) (sSeq (sAsg (cBin hAdd (cVar 2) (cLc (iE (cVar 1)) (aName 4) (M.pure true) (cTup (cCons (cVar 3) (cCons (cVar 4) (cNil)))) [4])) (aName 2)) (sNil)) (zs.map en) [some (seqD b (xs.map en)), some (seqD c (ys.map em)), some (.list acc), o, none] = .nx [some (seqD b (xs.map en)), some (seqD c (ys.map em)), some (.list (acc ++ zs.flatMap fun x => ys.map fun y => .tuple [en x, em y])), o', none] := by
    intro zs
    induction zs with
    | nil => intro acc o _; exact ⟨o, by simp [forL]⟩
    | cons z zs ih =>
      intro acc o h
      rw [List.length_cons, Nat.succ_mul] at h
      have hz : acc.length + (ys.map fun y => PyData.tuple [en z, em y]).length ≤ lineN := by
        rw [List.length_map]
        omega
      obtain ⟨o', e⟩ := ih (acc ++ ys.map fun y => .tuple [en z, em y]) (some (en z)) (by
        rw [List.length_append, List.length_map]
        omega)
      have hc := cLc_map (gi := iE (cVar 1)) (f := aName 4) (e := cTup (cCons (cVar 3) (cCons (cVar 4) (cNil)))) (vs := [4]) (ρ := [some (seqD b (xs.map en)), some (seqD c (ys.map em)), some (.list acc), some (en z), none]) em (fun y => [some (seqD b (xs.map en)), some (seqD c (ys.map em)), some (.list acc), some (en z), some (em y)]) (fun y => .tuple [en z, em y]) ys
        (by simp only [bd_ok, sb_ok, tn_nx, tn_rt, tn_bk, tn_ct, lo_some, slo_some, vr0, vrS, ap_var, ap_const, ap_pure, ap_bin, ap_nil, ap_cons, ap_star, ap_tup, ap_lst, ap_cb, ap_isi, ap_rgl, ap_if, ap_not, tru_t, tru_f, ap_or, ap_and, ap_toB, ap_bNot, ap_bAnd, ap_bOr, ap_bCmp, boolO_some', ap_iE, ap_iR1, ap_iR2, ap_iEn, ap_iZip, ap_pN, ap_pS, ap_sl, call_ok, ap_call, callI_ok, ap_callIo, ap_hole, ls0, lsS, ap_bor', borE_int, borE_bool, ap_borT, borT_ok, ap_move, ap_sNil, ap_sPass, ap_seq, ap_asg, ap_asgs, ap_ret, ap_expr, ap_sIf, ap_for, ap_setIx, ap_mut, optE_some, tup0, tup1, tup2, tup3, lst0, lst1, lst2, lst3, aName, aCons, aNil, aTup2, Option.bind_some, Option.map_some, List.set_cons_zero, List.set_cons_succ, List.cons_append, List.nil_append, if_true, if_false, Bool.false_eq_true, if_pos, reduceIte, drawn_seq]) rfl rfl hy (fun _ _ => rfl) (fun _ _ => by simp only [bd_ok, sb_ok, tn_nx, tn_rt, tn_bk, tn_ct, lo_some, slo_some, vr0, vrS, ap_var, ap_const, ap_pure, ap_bin, ap_nil, ap_cons, ap_star, ap_tup, ap_lst, ap_cb, ap_isi, ap_rgl, ap_if, ap_not, tru_t, tru_f, ap_or, ap_and, ap_toB, ap_bNot, ap_bAnd, ap_bOr, ap_bCmp, boolO_some', ap_iE, ap_iR1, ap_iR2, ap_iEn, ap_iZip, ap_pN, ap_pS, ap_sl, call_ok, ap_call, callI_ok, ap_callIo, ap_hole, ls0, lsS, ap_bor', borE_int, borE_bool, ap_borT, borT_ok, ap_move, ap_sNil, ap_sPass, ap_seq, ap_asg, ap_asgs, ap_ret, ap_expr, ap_sIf, ap_for, ap_setIx, ap_mut, optE_some, tup0, tup1, tup2, tup3, lst0, lst1, lst2, lst3, aName, aCons, aNil, aTup2, Option.bind_some, Option.map_some, List.set_cons_zero, List.set_cons_succ, List.cons_append, List.nil_append, if_true, if_false, Bool.false_eq_true, if_pos, reduceIte]) (fun _ _ => rfl)
      refine ⟨o', ?_⟩
      rw [List.map_cons, forL_cons]
      simp only [bd_ok, sb_ok, tn_nx, tn_rt, tn_bk, tn_ct, lo_some, slo_some, vr0, vrS, ap_var, ap_const, ap_pure, ap_bin, ap_nil, ap_cons, ap_star, ap_tup, ap_lst, ap_cb, ap_isi, ap_rgl, ap_if, ap_not, tru_t, tru_f, ap_or, ap_and, ap_toB, ap_bNot, ap_bAnd, ap_bOr, ap_bCmp, boolO_some', ap_iE, ap_iR1, ap_iR2, ap_iEn, ap_iZip, ap_pN, ap_pS, ap_sl, call_ok, ap_call, callI_ok, ap_callIo, ap_hole, ls0, lsS, ap_bor', borE_int, borE_bool, ap_borT, borT_ok, ap_move, ap_sNil, ap_sPass, ap_seq, ap_asg, ap_asgs, ap_ret, ap_expr, ap_sIf, ap_for, ap_setIx, ap_mut, optE_some, tup0, tup1, tup2, tup3, lst0, lst1, lst2, lst3, aName, aCons, aNil, aTup2, Option.bind_some, Option.map_some, List.set_cons_zero, List.set_cons_succ, List.cons_append, List.nil_append, if_true, if_false, Bool.false_eq_true, if_pos, reduceIte, hc, add_ll hz, e]
      rw [List.flatMap_cons, List.append_assoc]
  obtain ⟨o', e⟩ := loop xs [] none (by simpa using hl)
  refine runG_rt (ρ := [some (seqD b (xs.map en)), some (seqD c (ys.map em)), some (.list (xs.flatMap fun x => ys.map fun y => .tuple [en x, em y])), o', none]) rfl ?_
  show b_pairs φ [some (seqD b (xs.map en)), some (seqD c (ys.map em)), none, none, none] = _
  unfold b_pairs
  simp only [bd_ok, sb_ok, tn_nx, tn_rt, tn_bk, tn_ct, lo_some, slo_some, vr0, vrS, ap_var, ap_const, ap_pure, ap_bin, ap_nil, ap_cons, ap_star, ap_tup, ap_lst, ap_cb, ap_isi, ap_rgl, ap_if, ap_not, tru_t, tru_f, ap_or, ap_and, ap_toB, ap_bNot, ap_bAnd, ap_bOr, ap_bCmp, boolO_some', ap_iE, ap_iR1, ap_iR2, ap_iEn, ap_iZip, ap_pN, ap_pS, ap_sl, call_ok, ap_call, callI_ok, ap_callIo, ap_hole, ls0, lsS, ap_bor', borE_int, borE_bool, ap_borT, borT_ok, ap_move, ap_sNil, ap_sPass, ap_seq, ap_asg, ap_asgs, ap_ret, ap_expr, ap_sIf, ap_for, ap_setIx, ap_mut, optE_some, tup0, tup1, tup2, tup3, lst0, lst1, lst2, lst3, aName, aCons, aNil, aTup2, Option.bind_some, Option.map_some, List.set_cons_zero, List.set_cons_succ, List.cons_append, List.nil_append, if_true, if_false, Bool.false_eq_true, if_pos, reduceIte, drawn_seq, e]
end L2.PV
set_option Elab.async false
set_option linter.all false
set_option maxRecDepth 100000
set_option maxHeartbeats 4000000
namespace L2.PV
open PySem PySem.Spec PyProof.Rows
open Enc (enc)
/-! ### numbers -/
section
variable {i j : Int} {a b c : Dat} {ρ : Env}
theorem gt_ii : hGt (.int i) (.int j) = some (.bool (decide (j < i))) := Eq.trans rfl rfl
theorem ge_ii : hGe (.int i) (.int j) = some (.bool (decide (j ≤ i))) := Eq.trans rfl rfl
theorem lt_ii : hLt (.int i) (.int j) = some (.bool (decide (i < j))) := Eq.trans rfl rfl
theorem le_ii : hLe (.int i) (.int j) = some (.bool (decide (i ≤ j))) := Eq.trans rfl rfl
theorem mod_ii (h : 0 < j) : hMod (.int i) (.int j) = some (.int (i % j)) := by show (if 0 < j then some (PyData.int (i % j)) else none) = _; rw [if_pos h]
theorem div_ii (h : 0 < j ∧ j < 2 ^ 64) : hDiv (.int i) (.int j) = some (.int (i / j)) := by show (if 0 < j ∧ j < 2 ^ 64 then some (PyData.int (i / j)) else none) = _; rw [if_pos h]
theorem small_of (h : -(2 ^ 64) < i ∧ i < 2 ^ 64) : small64 i = true := by unfold small64; rw [decide_eq_true h.1, decide_eq_true h.2]; rfl
theorem mul_il (h : -(2 ^ 64) < i ∧ i < 2 ^ 64) : hMul (.int i) (.int j) = some (.int (i * j)) := by show (if small64 i || small64 j then some (PyData.int (i * j)) else none) = _; rw [small_of h]; rfl
theorem mul_ir (h : -(2 ^ 64) < j ∧ j < 2 ^ 64) : hMul (.int i) (.int j) = some (.int (i * j)) := by show (if small64 i || small64 j then some (PyData.int (i * j)) else none) = _; rw [small_of h, Bool.or_true]; rfl
theorem int_i : hInt [.int i] = some (.int i) := Eq.trans rfl rfl
theorem int_b {x : Bool} : hInt [.bool x] = some (.int (if x then 1 else 0)) := Eq.trans rfl rfl
theorem abs_i : hAbs [.int i] = some (.int (if i < 0 then -i else i)) := Eq.trans rfl rfl
theorem ix3_0 : hIx (.list [a, b, c]) (.int 0) = some a := Eq.trans rfl rfl
theorem ix3_1 : hIx (.list [a, b, c]) (.int 1) = some b := Eq.trans rfl rfl
theorem ix3_2 : hIx (.list [a, b, c]) (.int 2) = some c := Eq.trans rfl rfl
theorem set3_0 {n : Nat} {d : Dat} : setE ρ n d (.int 0) (some [a, b, c]) = .nx (ρ.set n (some (.list [d, b, c]))) := Eq.trans rfl rfl
theorem set3_2 {n : Nat} {d : Dat} : setE ρ n d (.int 2) (some [a, b, c]) = .nx (ρ.set n (some (.list [a, b, d]))) := Eq.trans rfl rfl
end
/-! ### a draw -/
def b_take (φ : Str → FnSem) : MS := sSeq (sIf (bCmp hGt (cBor (cBin hIx (cVar 0) (cConst (.int 0)))) (cConst (.int 0))) (sSeq (sAsg (cBin hMod (cCB hInt (cCons (cBor (cBin hIx (cVar 0) (cConst (.int 0)))) (cNil))) (cVar 1)) (aName 5)) (sSeq (sSetIx 0 (cBin hDiv (cBor (cBin hIx (cVar 0) (cConst (.int 0)))) (cVar 1)) (cConst (.int 0))) (sSeq (sRet (cVar 5)) (sNil)))) (sNil)) (sSeq (sSetIx 0 (cBin hAdd (cBor (cBin hIx (cVar 0) (cConst (.int 2)))) (cConst (.int 1))) (cConst (.int 2))) (sSeq (sAsg (cBin hMod (cCB hInt (cCons (cBin hMul (cBin hAdd (cBor (cBin hIx (cVar 0) (cConst (.int 1)))) (cBin hMul (cConst (.int 48271)) (cBor (cBin hIx (cVar 0) (cConst (.int 2)))))) (cBin hAdd (cConst (.int 39373)) (cBor (cBin hIx (cVar 0) (cConst (.int 2)))))) (cNil))) (cConst (.int 2147483647))) (aName 2)) (sSeq (sAsg (cBin hAdd (cBin hMod (cCB hInt (cCons (cVar 2) (cNil))) (cConst (.int 40009))) (cConst (.int 7))) (aName 3)) (sSeq (sAsg (cBin hMod (cCB hInt (cCons (cBin hMul (cBin hAdd (cBin hAdd (cVar 2) (cBor (cBin hIx (cVar 0) (cConst (.int 2))))) (cBin hDiv (cBor (cBin hIx (cVar 0) (cConst (.int 1)))) (cConst (.int 1000003)))) (cVar 3)) (cNil))) (cConst (.int 2147483629))) (aName 4)) (sSeq (sRet (cBin hMod (cCB hInt (cCons (cBin hDiv (cBin hMod (cCB hInt (cCons (cBin hAdd (cBin hMul (cVar 4) (cConst (.int 48271))) (cVar 2)) (cNil))) (cConst (.int 2147483587))) (cConst (.int 64))) (cNil))) (cVar 1))) (sNil))))))
/-- what the draws are made of -/
structure Urn where
  u0 : Int
  u1 : Int
  u2 : Int
def Urn.d (u : Urn) : List Dat := [.int u.u0, .int u.u1, .int u.u2]
/-- sound, with room for n draws more -/
def Urn.ok (u : Urn) (n : Nat) : Prop := 0 ≤ u.u0 ∧ 0 ≤ u.u2 ∧ u.u2 + n < 2 ^ 40
theorem runG_io {sg : Sg} {n j : Nat} {s : MS} {ds : List Dat} {d e : Dat} {ρ : Env} (hn : ds.length = sg.np) (hj : sg.io = some j) (hr : ρ[j]? = some (some e)) (h : s (startE n ds) = .rt d ρ) : runG sg n s ds = .ok d e := by
  rw [runG_rt hn h]
  unfold ioD
  rw [hj]
  dsimp only
  rw [hr]
theorem take_ok {φ : Str → FnSem} (u : Urn) (b : Int) {n : Nat} (h : u.ok (n + 1)) (hb : 0 < b ∧ b < 2 ^ 40) : ∃ (r : Int) (u' : Urn), runG ⟨2, some 0, false⟩ 6 (b_take φ) [.list u.d, .int b] = .ok (.int r) (.list u'.d) ∧ (0 ≤ r ∧ r < b) ∧ u'.ok n := by
  obtain ⟨u0, u1, u2⟩ := u
  obtain ⟨h0, h2, h3⟩ := h
  dsimp only at h0 h2 h3
  by_cases c : 0 < u0
  · refine ⟨u0 % b, ⟨u0 / b, u1, u2⟩, runG_io (ρ := [some (.list [.int (u0 / b), .int u1, .int u2]), some (.int b), none, none, none, some (.int (u0 % b))]) rfl rfl rfl ?_, ⟨Int.emod_nonneg _ (by omega), Int.emod_lt_of_pos _ hb.1⟩, Int.ediv_nonneg h0 (by omega), h2, by dsimp only; omega⟩
    show b_take φ [some (.list [.int u0, .int u1, .int u2]), some (.int b), none, none, none, none] = _
    unfold b_take
    simp only [bd_ok, sb_ok, tn_nx, tn_rt, tn_bk, tn_ct, lo_some, slo_some, vr0, vrS, ap_var, ap_const, ap_pure, ap_bin, ap_nil, ap_cons, ap_star, ap_tup, ap_lst, ap_cb, ap_isi, ap_rgl, ap_if, ap_not, tru_t, tru_f, ap_or, ap_and, ap_toB, ap_bNot, ap_bAnd, ap_bOr, ap_bCmp, boolO_some', ap_iE, ap_iR1, ap_iR2, ap_iEn, ap_iZip, ap_pN, ap_pS, ap_sl, call_ok, ap_call, callI_ok, ap_callIo, ap_hole, ls0, lsS, ap_bor', borE_int, borE_bool, ap_borT, borT_ok, ap_move, ap_sNil, ap_sPass, ap_seq, ap_asg, ap_asgs, ap_ret, ap_expr, ap_sIf, ap_for, ap_setIx, ap_mut, optE_some, tup0, tup1, tup2, tup3, lst0, lst1, lst2, lst3, aName, aCons, aNil, aTup2, Option.bind_some, Option.map_some, List.set_cons_zero, List.set_cons_succ, List.cons_append, List.nil_append, if_true, if_false, Bool.false_eq_true, if_pos, reduceIte, ix3_0, ix3_1, ix3_2, set3_0, set3_2, gt_ii, int_i, mod_ii hb.1, div_ii (⟨hb.1, by omega⟩ : 0 < b ∧ b < 2 ^ 64), decide_eq_true c]
  · have e1 : 0 ≤ u2 + 1 ∧ u2 + 1 < 2 ^ 41 := by omega
    obtain ⟨w, hw⟩ : ∃ w, w = u2 + 1 := ⟨_, rfl⟩
    obtain ⟨o, ho⟩ : ∃ o, o = (u1 + 48271 * w) * (39373 + w) % 2147483647 := ⟨_, rfl⟩
    obtain ⟨f, hf⟩ : ∃ f, f = o % 40009 + 7 := ⟨_, rfl⟩
    obtain ⟨t, ht⟩ : ∃ t, t = (o + w + u1 / 1000003) * f % 2147483629 := ⟨_, rfl⟩
    have f1 : 0 < f ∧ f < 2 ^ 40 := by
      have := Int.emod_nonneg o (b := 40009) (by decide)
      have := Int.emod_lt_of_pos o (b := 40009) (by decide)
      omega
    refine ⟨(t * 48271 + o) % 2147483587 / 64 % b, ⟨u0, u1, w⟩, runG_io (ρ := [some (.list [.int u0, .int u1, .int w]), some (.int b), some (.int o), some (.int f), some (.int t), none]) rfl rfl rfl ?_, ⟨Int.emod_nonneg _ (by omega), Int.emod_lt_of_pos _ hb.1⟩, h0, by dsimp only; omega, by dsimp only; omega⟩
    show b_take φ [some (.list [.int u0, .int u1, .int u2]), some (.int b), none, none, none, none] = _
    unfold b_take
    simp only [bd_ok, sb_ok, tn_nx, tn_rt, tn_bk, tn_ct, lo_some, slo_some, vr0, vrS, ap_var, ap_const, ap_pure, ap_bin, ap_nil, ap_cons, ap_star, ap_tup, ap_lst, ap_cb, ap_isi, ap_rgl, ap_if, ap_not, tru_t, tru_f, ap_or, ap_and, ap_toB, ap_bNot, ap_bAnd, ap_bOr, ap_bCmp, boolO_some', ap_iE, ap_iR1, ap_iR2, ap_iEn, ap_iZip, ap_pN, ap_pS, ap_sl, call_ok, ap_call, callI_ok, ap_callIo, ap_hole, ls0, lsS, ap_bor', borE_int, borE_bool, ap_borT, borT_ok, ap_move, ap_sNil, ap_sPass, ap_seq, ap_asg, ap_asgs, ap_ret, ap_expr, ap_sIf, ap_for, ap_setIx, ap_mut, optE_some, tup0, tup1, tup2, tup3, lst0, lst1, lst2, lst3, aName, aCons, aNil, aTup2, Option.bind_some, Option.map_some, List.set_cons_zero, List.set_cons_succ, List.cons_append, List.nil_append, if_true, if_false, Bool.false_eq_true, if_pos, reduceIte, ix3_0, ix3_1, ix3_2, set3_0, set3_2, gt_ii, int_i, decide_eq_false c, add_ii, ← hw, mul_il (show -(2 ^ 64) < (48271 : Int) ∧ (48271 : Int) < 2 ^ 64 by decide), mul_ir (show -(2 ^ 64) < 39373 + w ∧ 39373 + w < 2 ^ 64 by omega),
      mod_ii (show (0 : Int) < 2147483647 by decide), ← ho, mod_ii (show (0 : Int) < 40009 by decide), ← hf, div_ii (show (0 : Int) < 1000003 ∧ (1000003 : Int) < 2 ^ 64 by decide), mul_ir (show -(2 ^ 64) < f ∧ f < 2 ^ 64 by omega), mod_ii (show (0 : Int) < 2147483629 by decide), ← ht,
      mul_ir (show -(2 ^ 64) < (48271 : Int) ∧ (48271 : Int) < 2 ^ 64 by decide), mod_ii (show (0 : Int) < 2147483587 by decide), div_ii (show (0 : Int) < 64 ∧ (64 : Int) < 2 ^ 64 by decide), mod_ii hb.1]
/-! ### slices -/
def cutA {α : Type} (ds : List α) (lo hi : Option Int) : List α := (ds.drop (HT.sIx ds.length 0 lo)).take (HT.sIx ds.length ds.length hi - HT.sIx ds.length 0 lo)
theorem cutD_map {α : Type} (f : α → Dat) (xs : List α) (lo hi : Option Int) : cutD (xs.map f) lo hi = (cutA xs lo hi).map f := by
  unfold cutD cutA
  rw [List.length_map, List.map_take, List.map_drop]
theorem cutA_len {α : Type} (xs : List α) (lo hi : Option Int) : (cutA xs lo hi).length ≤ xs.length := by
  unfold cutA
  rw [List.length_take, List.length_drop]
  omega
theorem cutA_sub {α : Type} (xs : List α) (lo hi : Option Int) : (cutA xs lo hi).Sublist xs := (List.take_sublist _ _).trans (List.drop_sublist _ _)
theorem cutA_nil {α : Type} (lo hi : Option Int) : cutA ([] : List α) lo hi = [] := by
  have := cutA_len ([] : List α) lo hi
  exact List.length_eq_zero_iff.mp (Nat.le_zero.mp this)
theorem sl_scr {ds : List Dat} {lo hi : Option Int} : hSl (scD ds) lo hi = some (.list (cutD ds lo hi)) := Eq.trans rfl rfl
theorem sl_l {ds : List Dat} {lo hi : Option Int} : hSl (.list ds) lo hi = some (.list (cutD ds lo hi)) := Eq.trans rfl rfl
theorem sl_t {ds : List Dat} {lo hi : Option Int} : hSl (.tuple ds) lo hi = some (.tuple (cutD ds lo hi)) := Eq.trans rfl rfl
theorem cutA_head {α : Type} (x : α) (xs : List α) (m : Int) (hm : 0 < m) : cutA (x :: xs) none (some m) ≠ [] := by
  have e : HT.sIx (x :: xs).length (x :: xs).length (some m) = min m.toNat (x :: xs).length := by
    unfold HT.sIx
    dsimp only
    rw [if_neg (by omega)]
  unfold cutA
  rw [e, HT.sIx_none, List.drop_zero, Nat.sub_zero]
  intro h
  have := congrArg List.length h
  rw [List.length_take, List.length_cons, List.length_nil] at this
  omega
theorem enumD_int (ms : List Int) : enumD (ms.map .int) = ms.zipIdx.map fun p => .tuple [.int (p.2 : Nat), .int p.1] := by
  unfold enumD
  rw [List.zipIdx_map, List.map_map]
  rfl
/-! ### the numbers of the script -/
def b_cells (φ : Str → FnSem) : MS := sSeq (sAsg (cOr (cCB hList (cCons (cSl (cVar 0) (pNone) (pSome (cVar 1))) (cNil))) (cLst (cCons (cConst (.int 0)) (cNil)))) (aName 2)) (sSeq (sFor (iEnumD (cCons (cSl (cVar 0) (pSome (cVar 1)) (pSome (cConst (.int 63)))) (cNil))) (aTup 2 (aCons (aName 3) (aCons (aName 4) (aNil)))) (sSeq (sAsg (cBin hMod (cCB hInt (cCons (cVar 3) (cNil))) (cBor (cCB hLen (cCons (cVar 2) (cNil))))) (aName 5)) (sSeq (sSetIx 2 (cBin hAdd (cBor (cBin hIx (cVar 2) (cVar 5))) (cBin hMul (cVar 4) (cBin hAdd (cVar 3) (cConst (.int 2))))) (cVar 5)) (sNil)))) (sSeq (sRet (cMove 2)) (sNil)))
theorem ixN_ok {n : Nat} {i : Int} (h0 : 0 ≤ i) (h1 : i < n) : ixN n i = some i.toNat := by unfold ixN; rw [if_pos h0, if_pos h1]
theorem ix_list {ds : List Dat} {i : Int} {d : Dat} (h0 : 0 ≤ i) (h1 : ds[i.toNat]? = some d) : hIx (.list ds) (.int i) = some d := by
  have hl := (List.getElem?_eq_some_iff.mp h1).1
  show L2.atI ds i = some d
  unfold L2.atI
  rw [ixN_ok h0 (by omega)]
  exact h1
theorem ix_tup {ds : List Dat} {i : Int} {d : Dat} (h0 : 0 ≤ i) (h1 : ds[i.toNat]? = some d) : hIx (.tuple ds) (.int i) = some d := ix_list h0 h1
theorem setE_ok {ρ : Env} {n : Nat} {d : Dat} {i : Int} {ds : List Dat} (h0 : 0 ≤ i) (h1 : i < ds.length) : setE ρ n d (.int i) (some ds) = .nx (ρ.set n (some (.list (ds.set i.toNat d)))) := by
  unfold setE
  dsimp only
  rw [ixN_ok h0 h1]
theorem cells_ok {φ : Str → FnSem} (ns : List Int) (hl : ns.length ≤ 63) (m : Int) (hm : 0 < m) : ∃ cs : List Int, cs ≠ [] ∧ runG ⟨2, none, false⟩ 6 (b_cells φ) [script ns, .int m] = .ok (.list (cs.map .int)) .none := by
  obtain ⟨cs0, hc0, hne⟩ : ∃ cs0 : List Int, cs0 ≠ [] ∧ (cOr (cCB hList (cCons (cSl (cVar 0) (pNone) (pSome (cVar 1))) (cNil))) (cLst (cCons (cConst (.int 0)) (cNil)))) [some (script ns), some (.int m), none, none, none, none] = .ok (.list (cs0.map .int)) [some (script ns), some (.int m), none, none, none, none] := by
    have ev : (cCB hList (cCons (cSl (cVar 0) (pNone) (pSome (cVar 1))) (cNil))) [some (script ns), some (.int m), none, none, none, none] = .ok (.list ((cutA ns none (some m)).map .int)) [some (script ns), some (.int m), none, none, none, none] := by
      simp only [bd_ok, sb_ok, tn_nx, tn_rt, tn_bk, tn_ct, lo_some, slo_some, vr0, vrS, ap_var, ap_const, ap_pure, ap_bin, ap_nil, ap_cons, ap_star, ap_tup, ap_lst, ap_cb, ap_isi, ap_rgl, ap_if, ap_not, tru_t, tru_f, ap_or, ap_and, ap_toB, ap_bNot, ap_bAnd, ap_bOr, ap_bCmp, boolO_some', ap_iE, ap_iR1, ap_iR2, ap_iEn, ap_iZip, ap_pN, ap_pS, ap_sl, call_ok, ap_call, callI_ok, ap_callIo, ap_hole, ls0, lsS, ap_bor', borE_int, borE_bool, ap_borT, borT_ok, ap_move, ap_sNil, ap_sPass, ap_seq, ap_asg, ap_asgs, ap_ret, ap_expr, ap_sIf, ap_for, ap_setIx, ap_mut, optE_some, tup0, tup1, tup2, tup3, lst0, lst1, lst2, lst3, aName, aCons, aNil, aTup2, Option.bind_some, Option.map_some, List.set_cons_zero, List.set_cons_succ, List.cons_append, List.nil_append, if_true, if_false, Bool.false_eq_true, if_pos, reduceIte, script, sl_scr, intOf, cutD_map, hList]
    cases ns with
    | nil =>
      refine ⟨[0], by simp, ?_⟩
      rw [ap_or, ev, bd_ok, cutA_nil]
      show truE (some false) _ _ = _
      simp only [bd_ok, sb_ok, tn_nx, tn_rt, tn_bk, tn_ct, lo_some, slo_some, vr0, vrS, ap_var, ap_const, ap_pure, ap_bin, ap_nil, ap_cons, ap_star, ap_tup, ap_lst, ap_cb, ap_isi, ap_rgl, ap_if, ap_not, tru_t, tru_f, ap_or, ap_and, ap_toB, ap_bNot, ap_bAnd, ap_bOr, ap_bCmp, boolO_some', ap_iE, ap_iR1, ap_iR2, ap_iEn, ap_iZip, ap_pN, ap_pS, ap_sl, call_ok, ap_call, callI_ok, ap_callIo, ap_hole, ls0, lsS, ap_bor', borE_int, borE_bool, ap_borT, borT_ok, ap_move, ap_sNil, ap_sPass, ap_seq, ap_asg, ap_asgs, ap_ret, ap_expr, ap_sIf, ap_for, ap_setIx, ap_mut, optE_some, tup0, tup1, tup2, tup3, lst0, lst1, lst2, lst3, aName, aCons, aNil, aTup2, Option.bind_some, Option.map_some, List.set_cons_zero, List.set_cons_succ, List.cons_append, List.nil_append, if_true, if_false, Bool.false_eq_true, if_pos, reduceIte]
      rfl
    | cons x xs =>
      refine ⟨cutA (x :: xs) none (some m), cutA_head x xs m hm, ?_⟩
      rw [ap_or, ev, bd_ok]
      have : hTru (.list ((cutA (x :: xs) none (some m)).map PyData.int)) = some true := by
        show some (!((cutA (x :: xs) none (some m)).map PyData.int).isEmpty) = _
        have := cutA_head x xs m hm
        cases e : cutA (x :: xs) none (some m) with
        | nil => exact absurd e this
        | cons y ys => rfl
      rw [this, tru_t]
  obtain ⟨ms, hms, hml⟩ : ∃ ms : List Int, cutD (ns.map PyData.int) (some m) (some 63) = ms.map .int ∧ ms.length ≤ 63 := ⟨cutA ns (some m) (some 63), cutD_map _ _ _ _, Nat.le_trans (cutA_len _ _ _) hl⟩
  have loop := forL_inv (τ := List Int × Option Dat × Option Dat × Option Dat) (f := aTup 2 (aCons (aName 3) (aCons (aName 4) (aNil)))) (b := sSeq (sAsg (cBin hMod (cCB hInt (cCons (cVar 3) (cNil))) (cBor (cCB hLen (cCons (cVar 2) (cNil))))) (aName 5)) (sSeq (sSetIx 2 (cBin hAdd (cBor (cBin hIx (cVar 2) (cVar 5))) (cBin hMul (cVar 4) (cBin hAdd (cVar 3) (cConst (.int 2))))) (cVar 5)) (sNil)))
    (fun p : Int × Nat => .tuple [.int (p.2 : Nat), .int p.1]) (fun s => [some (script ns), some (.int m), some (.list (s.1.map .int)), s.2.1, s.2.2.1, s.2.2.2]) (fun s => s.1 ≠ []) ms.zipIdx (cs0, none, none, none) hc0 (fun s p hp hs => by
      obtain ⟨cs, o1, o2, o3⟩ := s
      obtain ⟨v, k⟩ := p
      have hk : k < ms.length := by
        have := List.snd_lt_of_mem_zipIdx hp
        simpa using this
      have hpos : 0 < (cs.length : Int) := by
        cases cs with
        | nil => exact absurd rfl hs
        | cons _ _ => rw [List.length_cons]; omega
      have a0 : 0 ≤ (k : Int) % (cs.length : Int) := Int.emod_nonneg _ (by omega)
      have a1 : (k : Int) % (cs.length : Int) < (cs.length : Int) := Int.emod_lt_of_pos _ hpos
      obtain ⟨at_, hat⟩ : ∃ a, a = (k : Int) % (cs.length : Int) := ⟨_, rfl⟩
      rw [← hat] at a0 a1
      have a2 : at_.toNat < cs.length := by omega
      obtain ⟨c, hc⟩ : ∃ c, cs[at_.toNat]? = some c := ⟨_, List.getElem?_eq_getElem a2⟩
      have hix : hIx (.list (cs.map PyData.int)) (.int at_) = some (.int c) := ix_list a0 (by rw [List.getElem?_map, hc]; rfl)
      have hlen : hLen [.list (cs.map PyData.int)] = some (.int cs.length) := by show some (PyData.int ((cs.map PyData.int).length : Nat)) = _; rw [List.length_map]
      refine ⟨_, (cs.set at_.toNat (c + v * ((k : Int) + 2)), some (.int k), some (.int v), some (.int at_)), rfl, ?_, ?_⟩
      · simp only [bd_ok, sb_ok, tn_nx, tn_rt, tn_bk, tn_ct, lo_some, slo_some, vr0, vrS, ap_var, ap_const, ap_pure, ap_bin, ap_nil, ap_cons, ap_star, ap_tup, ap_lst, ap_cb, ap_isi, ap_rgl, ap_if, ap_not, tru_t, tru_f, ap_or, ap_and, ap_toB, ap_bNot, ap_bAnd, ap_bOr, ap_bCmp, boolO_some', ap_iE, ap_iR1, ap_iR2, ap_iEn, ap_iZip, ap_pN, ap_pS, ap_sl, call_ok, ap_call, callI_ok, ap_callIo, ap_hole, ls0, lsS, ap_bor', borE_int, borE_bool, ap_borT, borT_ok, ap_move, ap_sNil, ap_sPass, ap_seq, ap_asg, ap_asgs, ap_ret, ap_expr, ap_sIf, ap_for, ap_setIx, ap_mut, optE_some, tup0, tup1, tup2, tup3, lst0, lst1, lst2, lst3, aName, aCons, aNil, aTup2, Option.bind_some, Option.map_some, List.set_cons_zero, List.set_cons_succ, List.cons_append, List.nil_append, if_true, if_false, Bool.false_eq_true, if_pos, reduceIte, hlen, int_i, mod_ii hpos, ← hat, hix, add_ii, mul_ir (show -(2 ^ 64) < (k : Int) + 2 ∧ (k : Int) + 2 < 2 ^ 64 by omega), setE_ok (ds := cs.map PyData.int) a0 (by rw [List.length_map]; exact a1)]
        rw [← List.map_set]
      · intro e
        have := congrArg List.length e
        rw [List.length_set] at this
        simp at this
        exact hs this)
  obtain ⟨⟨cs, o1, o2, o3⟩, h1, h2⟩ := loop
  refine ⟨cs, h2, runG_rt (ρ := [some (script ns), some (.int m), none, o1, o2, o3]) rfl ?_⟩
  show b_cells φ [some (script ns), some (.int m), none, none, none, none] = _
  unfold b_cells
  rw [ap_seq, ap_asg, hne, sb_ok]
  simp only [bd_ok, sb_ok, tn_nx, tn_rt, tn_bk, tn_ct, lo_some, slo_some, vr0, vrS, ap_var, ap_const, ap_pure, ap_bin, ap_nil, ap_cons, ap_star, ap_tup, ap_lst, ap_cb, ap_isi, ap_rgl, ap_if, ap_not, tru_t, tru_f, ap_or, ap_and, ap_toB, ap_bNot, ap_bAnd, ap_bOr, ap_bCmp, boolO_some', ap_iE, ap_iR1, ap_iR2, ap_iEn, ap_iZip, ap_pN, ap_pS, ap_sl, call_ok, ap_call, callI_ok, ap_callIo, ap_hole, ls0, lsS, ap_bor', borE_int, borE_bool, ap_borT, borT_ok, ap_move, ap_sNil, ap_sPass, ap_seq, ap_asg, ap_asgs, ap_ret, ap_expr, ap_sIf, ap_for, ap_setIx, ap_mut, optE_some, tup0, tup1, tup2, tup3, lst0, lst1, lst2, lst3, aName, aCons, aNil, aTup2, Option.bind_some, Option.map_some, List.set_cons_zero, List.set_cons_succ, List.cons_append, List.nil_append, if_true, if_false, Bool.false_eq_true, if_pos, reduceIte, script, sl_scr, intOf, hms, en1, enumD_int]
  dsimp only [script] at h1
  rw [h1]
  simp only [bd_ok, sb_ok, tn_nx, tn_rt, tn_bk, tn_ct, lo_some, slo_some, vr0, vrS, ap_var, ap_const, ap_pure, ap_bin, ap_nil, ap_cons, ap_star, ap_tup, ap_lst, ap_cb, ap_isi, ap_rgl, ap_if, ap_not, tru_t, tru_f, ap_or, ap_and, ap_toB, ap_bNot, ap_bAnd, ap_bOr, ap_bCmp, boolO_some', ap_iE, ap_iR1, ap_iR2, ap_iEn, ap_iZip, ap_pN, ap_pS, ap_sl, call_ok, ap_call, callI_ok, ap_callIo, ap_hole, ls0, lsS, ap_bor', borE_int, borE_bool, ap_borT, borT_ok, ap_move, ap_sNil, ap_sPass, ap_seq, ap_asg, ap_asgs, ap_ret, ap_expr, ap_sIf, ap_for, ap_setIx, ap_mut, optE_some, tup0, tup1, tup2, tup3, lst0, lst1, lst2, lst3, aName, aCons, aNil, aTup2, Option.bind_some, Option.map_some, List.set_cons_zero, List.set_cons_succ, List.cons_append, List.nil_append, if_true, if_false, Bool.false_eq_true, if_pos, reduceIte]
end L2.PV
set_option Elab.async false
set_option linter.all false
set_option maxRecDepth 100000
set_option maxHeartbeats 4000000
namespace L2.PV
open PySem PySem.Spec PyProof.Rows
open Enc (enc)
theorem isi_x {ts : List String} {t : String} {d : Dat} {b : Bool} (h : tyD d = some t) (hk : kitAnyB t ts = some b) : hIsi ts d = some (.bool b) := by
  unfold hIsi; rw [h, Option.bind_some, hk]; rfl
section
variable {b : Bool} {i : Int} {z : Str} {ds : List Dat}
theorem isi_lt_non : hIsi ["list", "tuple"] .none = some (.bool false) := isi_x rfl (by decide +kernel)
theorem isi_lt_bl : hIsi ["list", "tuple"] (.bool b) = some (.bool false) := isi_x rfl (by decide +kernel)
theorem isi_lt_in : hIsi ["list", "tuple"] (.int i) = some (.bool false) := isi_x rfl (by decide +kernel)
theorem isi_lt_st : hIsi ["list", "tuple"] (.str z) = some (.bool false) := isi_x rfl (by decide +kernel)
theorem isi_lt_ls : hIsi ["list", "tuple"] (.list ds) = some (.bool true) := isi_x rfl (by decide +kernel)
theorem isi_lt_tu : hIsi ["list", "tuple"] (.tuple ds) = some (.bool true) := isi_x rfl (by decide +kernel)
theorem isi_l_non : hIsi ["list"] .none = some (.bool false) := isi_x rfl (by decide +kernel)
theorem isi_l_bl : hIsi ["list"] (.bool b) = some (.bool false) := isi_x rfl (by decide +kernel)
theorem isi_l_in : hIsi ["list"] (.int i) = some (.bool false) := isi_x rfl (by decide +kernel)
theorem isi_l_st : hIsi ["list"] (.str z) = some (.bool false) := isi_x rfl (by decide +kernel)
theorem isi_l_ls : hIsi ["list"] (.list ds) = some (.bool true) := isi_x rfl (by decide +kernel)
theorem isi_l_tu : hIsi ["list"] (.tuple ds) = some (.bool false) := isi_x rfl (by decide +kernel)
theorem isi_t_non : hIsi ["tuple"] .none = some (.bool false) := isi_x rfl (by decide +kernel)
theorem isi_t_bl : hIsi ["tuple"] (.bool b) = some (.bool false) := isi_x rfl (by decide +kernel)
theorem isi_t_in : hIsi ["tuple"] (.int i) = some (.bool false) := isi_x rfl (by decide +kernel)
theorem isi_t_st : hIsi ["tuple"] (.str z) = some (.bool false) := isi_x rfl (by decide +kernel)
theorem isi_t_ls : hIsi ["tuple"] (.list ds) = some (.bool false) := isi_x rfl (by decide +kernel)
theorem isi_t_tu : hIsi ["tuple"] (.tuple ds) = some (.bool true) := isi_x rfl (by decide +kernel)
theorem isi_bs_non : hIsi ["bool", "str"] .none = some (.bool false) := isi_x rfl (by decide +kernel)
theorem isi_bs_bl : hIsi ["bool", "str"] (.bool b) = some (.bool true) := isi_x rfl (by decide +kernel)
theorem isi_bs_in : hIsi ["bool", "str"] (.int i) = some (.bool false) := isi_x rfl (by decide +kernel)
theorem isi_bs_st : hIsi ["bool", "str"] (.str z) = some (.bool true) := isi_x rfl (by decide +kernel)
theorem isi_bs_ls : hIsi ["bool", "str"] (.list ds) = some (.bool false) := isi_x rfl (by decide +kernel)
theorem isi_bs_tu : hIsi ["bool", "str"] (.tuple ds) = some (.bool false) := isi_x rfl (by decide +kernel)
theorem isi_s_non : hIsi ["str"] .none = some (.bool false) := isi_x rfl (by decide +kernel)
theorem isi_s_bl : hIsi ["str"] (.bool b) = some (.bool false) := isi_x rfl (by decide +kernel)
theorem isi_s_in : hIsi ["str"] (.int i) = some (.bool false) := isi_x rfl (by decide +kernel)
theorem isi_s_st : hIsi ["str"] (.str z) = some (.bool true) := isi_x rfl (by decide +kernel)
theorem isi_s_ls : hIsi ["str"] (.list ds) = some (.bool false) := isi_x rfl (by decide +kernel)
theorem isi_s_tu : hIsi ["str"] (.tuple ds) = some (.bool false) := isi_x rfl (by decide +kernel)
theorem isi_b_non : hIsi ["bool"] .none = some (.bool false) := isi_x rfl (by decide +kernel)
theorem isi_b_bl : hIsi ["bool"] (.bool b) = some (.bool true) := isi_x rfl (by decide +kernel)
theorem isi_b_in : hIsi ["bool"] (.int i) = some (.bool false) := isi_x rfl (by decide +kernel)
theorem isi_b_st : hIsi ["bool"] (.str z) = some (.bool false) := isi_x rfl (by decide +kernel)
theorem isi_b_ls : hIsi ["bool"] (.list ds) = some (.bool false) := isi_x rfl (by decide +kernel)
theorem isi_b_tu : hIsi ["bool"] (.tuple ds) = some (.bool false) := isi_x rfl (by decide +kernel)
theorem isi_i_non : hIsi ["int"] .none = some (.bool false) := isi_x rfl (by decide +kernel)
theorem isi_i_bl : hIsi ["int"] (.bool b) = some (.bool true) := isi_x rfl (by decide +kernel)
theorem isi_i_in : hIsi ["int"] (.int i) = some (.bool true) := isi_x rfl (by decide +kernel)
theorem isi_i_st : hIsi ["int"] (.str z) = some (.bool false) := isi_x rfl (by decide +kernel)
theorem isi_i_ls : hIsi ["int"] (.list ds) = some (.bool false) := isi_x rfl (by decide +kernel)
theorem isi_i_tu : hIsi ["int"] (.tuple ds) = some (.bool false) := isi_x rfl (by decide +kernel)
end
section
variable {α : Type} {xs : List α}
theorem bools_map (f : α → Bool) : ∀ xs : List α, boolsOf (xs.map fun x => .bool (f x)) = some (xs.map f)
  | [] => rfl
  | x :: xs => by
    show (boolsOf (xs.map fun x => PyData.bool (f x))).map (f x :: ·) = _
    rw [bools_map f xs]; rfl
theorem ints_map (f : α → Int) : ∀ xs : List α, intsOf (xs.map fun x => .int (f x)) = some (xs.map f)
  | [] => rfl
  | x :: xs => by
    show (intsOf (xs.map fun x => PyData.int (f x))).map (f x :: ·) = _
    rw [ints_map f xs]; rfl
theorem all_map (f : α → Bool) : hAll [.list (xs.map fun x => .bool (f x))] = some (.bool (xs.all f)) := by
  show (boolsOf (xs.map fun x => PyData.bool (f x))).map (fun ns => PyData.bool (ns.all id)) = _
  rw [bools_map, Option.map_some, List.all_map]
  rfl
theorem any_map (f : α → Bool) : hAny [.list (xs.map fun x => .bool (f x))] = some (.bool (xs.any f)) := by
  show (boolsOf (xs.map fun x => PyData.bool (f x))).map (fun ns => PyData.bool (ns.any id)) = _
  rw [bools_map, Option.map_some, List.any_map]
  rfl
theorem sum_map (f : α → Int) : hSum [.list (xs.map fun x => .int (f x))] = some (.int (xs.map f).sum) := by
  show (intsOf (xs.map fun x => PyData.int (f x))).map (fun ns => PyData.int ns.sum) = _
  rw [ints_map]
  rfl
end
theorem tru_b {b : Bool} : hTru (.bool b) = some b := Eq.trans rfl rfl
theorem len_l {ds : List Dat} : hLen [.list ds] = some (.int ds.length) := Eq.trans rfl rfl
theorem len_t {ds : List Dat} : hLen [.tuple ds] = some (.int ds.length) := Eq.trans rfl rfl
theorem is_n {d : Dat} : hIs d .none = some (.bool (isNone d)) := by cases d <;> rfl
theorem eq_ii {i j : Int} : hEq (.int i) (.int j) = some (.bool (decide (i = j))) := hEq_enc (α := Int) (by decide) i j
theorem ne_ii {i j : Int} : hNe (.int i) (.int j) = some (.bool (!decide (i = j))) := hNe_enc (α := Int) (by decide) i j
theorem eq_bb {i j : Bool} : hEq (.bool i) (.bool j) = some (.bool (decide (i = j))) := hEq_enc (α := Bool) (by decide) i j
theorem ne_bb {i j : Bool} : hNe (.bool i) (.bool j) = some (.bool (!decide (i = j))) := hNe_enc (α := Bool) (by decide) i j
theorem isNone_b {b : Bool} : isNone (.bool b) = false := Eq.trans rfl rfl
theorem isNone_i {b : Int} : isNone (.int b) = false := Eq.trans rfl rfl
theorem isNone_s {b : Str} : isNone (.str b) = false := Eq.trans rfl rfl
theorem isNone_n : isNone .none = true := Eq.trans rfl rfl
/-! ### the same -/
def b_same (φ : Str → FnSem) : MS := sSeq (sIf (toB (cIsi ["list", "tuple"] (cVar 1))) (sSeq (sIf (bOr (bCmp hNe (cIsi ["list"] (cVar 0)) (cIsi ["list"] (cVar 1))) (bCmp hNe (cIsi ["tuple"] (cVar 0)) (cIsi ["tuple"] (cVar 1)))) (sSeq (sRet (cConst (.bool false))) (sNil)) (sNil)) (sSeq (sRet (cAnd (cBin hEq (cCB hLen (cCons (cVar 0) (cNil))) (cCB hLen (cCons (cVar 1) (cNil)))) (cCB hAll (cCons (cLc (iZipD (cCons (cVar 0) (cCons (cVar 1) (cNil)))) (aTup 2 (aCons (aName 2) (aCons (aName 3) (aNil)))) (M.pure true) (cCall (φ "_law_same") (cCons (cVar 2) (cCons (cVar 3) (cNil)))) [2, 3]) (cNil))))) (sNil))) (sNil)) (sSeq (sIf (bOr (bCmp hIs (cVar 1) (cConst (.none))) (toB (cIsi ["bool", "str"] (cVar 1)))) (sSeq (sRet (cAnd (cBin hEq (cVar 0) (cVar 1)) (cAnd (cBin hEq (cIsi ["str"] (cVar 0)) (cIsi ["str"] (cVar 1))) (cAnd (cBin hEq (cIsi ["bool"] (cVar 0)) (cIsi ["bool"] (cVar 1))) (cBin hEq (cBin hIs (cVar 0) (cConst (.none))) (cBin hIs (cVar 1) (cConst (.none)))))))) (sNil)) (sNil)) (sSeq (sRet (cAnd (cIsi ["int"] (cVar 0)) (cAnd (cNot (cIsi ["bool"] (cVar 0))) (cBin hEq (cVar 0) (cVar 1))))) (sNil)))
mutual
def okD : Dat → Bool
  | .none => true
  | .bool _ => true
  | .int _ => true
  | .str x => shaped (.str x)
  | .list ds => decide (ds.length ≤ lineN) && okDs ds
  | .tuple ds => decide (ds.length ≤ lineN) && okDs ds
  | .dict _ => false
def okDs : List Dat → Bool
  | [] => true
  | d :: ds => okD d && okDs ds
end
theorem okDs_mem {ds : List Dat} {d : Dat} (h : okDs ds = true) (m : d ∈ ds) : okD d = true := by
  induction ds with
  | nil => cases m
  | cons e ds ih =>
    rw [okDs, Bool.and_eq_true] at h
    rcases List.mem_cons.mp m with rfl | m
    · exact h.1
    · exact ih h.2 m
theorem dep_mem {ds : List Dat} {d : Dat} (m : d ∈ ds) : d.depth ≤ PyData.depthAll ds := by
  induction ds with
  | nil => cases m
  | cons e ds ih =>
    rw [PyData.depthAll]
    rcases List.mem_cons.mp m with rfl | m
    · exact Nat.le_max_left _ _
    · exact Nat.le_trans (ih m) (Nat.le_max_right _ _)
theorem zip_self (ds : List Dat) : zipD ds ds = ds.map fun d => .tuple [d, d] := by
  unfold zipD
  induction ds with
  | nil => rfl
  | cons d ds ih => rw [List.zip_cons_cons, List.map_cons, ih]; rfl
theorem eqv_str (x : Str) : PyData.eqv (.str x) (.str x) = true := by simp [PyData.eqv]
theorem same_ok {sem : Nat → Str → FnSem} (hs : ∀ k, sem (k + 1) "_law_same" = runG ⟨2, none, false⟩ 4 (b_same (sem k))) : ∀ (k : Nat) (d : Dat), okD d = true → d.depth < k → sem k "_law_same" [d, d] = .ok (.bool true) .none := by
  intro k
  induction k with
  | zero => intro d _ h; exact absurd h (Nat.not_lt_zero _)
  | succ k ih =>
    intro d hd hk
    rw [hs k]
    have seqs : ∀ (ds : List Dat) (e : Dat), (e = .list ds ∨ e = .tuple ds) → okDs ds = true → ds.length ≤ lineN → PyData.depthAll ds < k →
        (cCB hAll (cCons (cLc (iZipD (cCons (cVar 0) (cCons (cVar 1) (cNil)))) (aTup 2 (aCons (aName 2) (aCons (aName 3) (aNil)))) (M.pure true) (cCall (sem k "_law_same") (cCons (cVar 2) (cCons (cVar 3) (cNil)))) [2, 3]) (cNil))) [some e, some e, none, none] = .ok (.bool true) [some e, some e, none, none] := by
      intro ds e he h1 h2 h3
      have hz : zp2 [e, e] = some (ds.map fun d => .tuple [d, d]) := by
        rcases he with rfl | rfl
        · show some (zipD ds ds) = _; rw [zip_self]
        · show some (zipD ds ds) = _; rw [zip_self]
      have hc := cLc_map (gi := iZipD (cCons (cVar 0) (cCons (cVar 1) (cNil)))) (f := aTup 2 (aCons (aName 2) (aCons (aName 3) (aNil)))) (e := cCall (sem k "_law_same") (cCons (cVar 2) (cCons (cVar 3) (cNil)))) (vs := [2, 3]) (ρ := [some e, some e, none, none]) (fun d => .tuple [d, d]) (fun d => [some e, some e, some d, some d]) (fun _ => .bool true) ds
        (by simp only [bd_ok, sb_ok, tn_nx, tn_rt, tn_bk, tn_ct, lo_some, slo_some, vr0, vrS, ap_var, ap_const, ap_pure, ap_bin, ap_nil, ap_cons, ap_star, ap_tup, ap_lst, ap_cb, ap_isi, ap_rgl, ap_if, ap_not, tru_t, tru_f, ap_or, ap_and, ap_toB, ap_bNot, ap_bAnd, ap_bOr, ap_bCmp, boolO_some', ap_iE, ap_iR1, ap_iR2, ap_iEn, ap_iZip, ap_pN, ap_pS, ap_sl, call_ok, ap_call, callI_ok, ap_callIo, ap_hole, ls0, lsS, ap_bor', borE_int, borE_bool, ap_borT, borT_ok, ap_move, ap_sNil, ap_sPass, ap_seq, ap_asg, ap_asgs, ap_ret, ap_expr, ap_sIf, ap_for, ap_setIx, ap_mut, optE_some, tup0, tup1, tup2, tup3, lst0, lst1, lst2, lst3, aName, aCons, aNil, aTup2, Option.bind_some, Option.map_some, List.set_cons_zero, List.set_cons_succ, List.cons_append, List.nil_append, if_true, if_false, Bool.false_eq_true, if_pos, reduceIte, hz]) rfl rfl h2 (fun _ _ => rfl) (fun d m => by simp only [bd_ok, sb_ok, tn_nx, tn_rt, tn_bk, tn_ct, lo_some, slo_some, vr0, vrS, ap_var, ap_const, ap_pure, ap_bin, ap_nil, ap_cons, ap_star, ap_tup, ap_lst, ap_cb, ap_isi, ap_rgl, ap_if, ap_not, tru_t, tru_f, ap_or, ap_and, ap_toB, ap_bNot, ap_bAnd, ap_bOr, ap_bCmp, boolO_some', ap_iE, ap_iR1, ap_iR2, ap_iEn, ap_iZip, ap_pN, ap_pS, ap_sl, call_ok, ap_call, callI_ok, ap_callIo, ap_hole, ls0, lsS, ap_bor', borE_int, borE_bool, ap_borT, borT_ok, ap_move, ap_sNil, ap_sPass, ap_seq, ap_asg, ap_asgs, ap_ret, ap_expr, ap_sIf, ap_for, ap_setIx, ap_mut, optE_some, tup0, tup1, tup2, tup3, lst0, lst1, lst2, lst3, aName, aCons, aNil, aTup2, Option.bind_some, Option.map_some, List.set_cons_zero, List.set_cons_succ, List.cons_append, List.nil_append, if_true, if_false, Bool.false_eq_true, if_pos, reduceIte, ih d (okDs_mem h1 m) (Nat.lt_of_le_of_lt (dep_mem m) h3)]) (fun _ _ => rfl)
      simp only [bd_ok, sb_ok, tn_nx, tn_rt, tn_bk, tn_ct, lo_some, slo_some, vr0, vrS, ap_var, ap_const, ap_pure, ap_bin, ap_nil, ap_cons, ap_star, ap_tup, ap_lst, ap_cb, ap_isi, ap_rgl, ap_if, ap_not, tru_t, tru_f, ap_or, ap_and, ap_toB, ap_bNot, ap_bAnd, ap_bOr, ap_bCmp, boolO_some', ap_iE, ap_iR1, ap_iR2, ap_iEn, ap_iZip, ap_pN, ap_pS, ap_sl, call_ok, ap_call, callI_ok, ap_callIo, ap_hole, ls0, lsS, ap_bor', borE_int, borE_bool, ap_borT, borT_ok, ap_move, ap_sNil, ap_sPass, ap_seq, ap_asg, ap_asgs, ap_ret, ap_expr, ap_sIf, ap_for, ap_setIx, ap_mut, optE_some, tup0, tup1, tup2, tup3, lst0, lst1, lst2, lst3, aName, aCons, aNil, aTup2, Option.bind_some, Option.map_some, List.set_cons_zero, List.set_cons_succ, List.cons_append, List.nil_append, if_true, if_false, Bool.false_eq_true, if_pos, reduceIte, hc, all_map]
      rw [List.all_eq_true.mpr fun _ _ => rfl]
    refine runG_rt (ρ := [some d, some d, none, none]) rfl ?_
    show b_same (sem k) [some d, some d, none, none] = _
    unfold b_same
    cases d with
    | none => simp only [bd_ok, sb_ok, tn_nx, tn_rt, tn_bk, tn_ct, lo_some, slo_some, vr0, vrS, ap_var, ap_const, ap_pure, ap_bin, ap_nil, ap_cons, ap_star, ap_tup, ap_lst, ap_cb, ap_isi, ap_rgl, ap_if, ap_not, tru_t, tru_f, ap_or, ap_and, ap_toB, ap_bNot, ap_bAnd, ap_bOr, ap_bCmp, boolO_some', ap_iE, ap_iR1, ap_iR2, ap_iEn, ap_iZip, ap_pN, ap_pS, ap_sl, call_ok, ap_call, callI_ok, ap_callIo, ap_hole, ls0, lsS, ap_bor', borE_int, borE_bool, ap_borT, borT_ok, ap_move, ap_sNil, ap_sPass, ap_seq, ap_asg, ap_asgs, ap_ret, ap_expr, ap_sIf, ap_for, ap_setIx, ap_mut, optE_some, tup0, tup1, tup2, tup3, lst0, lst1, lst2, lst3, aName, aCons, aNil, aTup2, Option.bind_some, Option.map_some, List.set_cons_zero, List.set_cons_succ, List.cons_append, List.nil_append, if_true, if_false, Bool.false_eq_true, if_pos, reduceIte, isi_lt_non, is_n, tru_b, isNone_n]; rfl
    | bool b =>
      simp only [bd_ok, sb_ok, tn_nx, tn_rt, tn_bk, tn_ct, lo_some, slo_some, vr0, vrS, ap_var, ap_const, ap_pure, ap_bin, ap_nil, ap_cons, ap_star, ap_tup, ap_lst, ap_cb, ap_isi, ap_rgl, ap_if, ap_not, tru_t, tru_f, ap_or, ap_and, ap_toB, ap_bNot, ap_bAnd, ap_bOr, ap_bCmp, boolO_some', ap_iE, ap_iR1, ap_iR2, ap_iEn, ap_iZip, ap_pN, ap_pS, ap_sl, call_ok, ap_call, callI_ok, ap_callIo, ap_hole, ls0, lsS, ap_bor', borE_int, borE_bool, ap_borT, borT_ok, ap_move, ap_sNil, ap_sPass, ap_seq, ap_asg, ap_asgs, ap_ret, ap_expr, ap_sIf, ap_for, ap_setIx, ap_mut, optE_some, tup0, tup1, tup2, tup3, lst0, lst1, lst2, lst3, aName, aCons, aNil, aTup2, Option.bind_some, Option.map_some, List.set_cons_zero, List.set_cons_succ, List.cons_append, List.nil_append, if_true, if_false, Bool.false_eq_true, if_pos, reduceIte, isi_lt_bl, isi_bs_bl, isi_s_bl, isi_b_bl, is_n, tru_b, isNone_b, eq_bb, decide_true]
    | int i =>
      simp only [bd_ok, sb_ok, tn_nx, tn_rt, tn_bk, tn_ct, lo_some, slo_some, vr0, vrS, ap_var, ap_const, ap_pure, ap_bin, ap_nil, ap_cons, ap_star, ap_tup, ap_lst, ap_cb, ap_isi, ap_rgl, ap_if, ap_not, tru_t, tru_f, ap_or, ap_and, ap_toB, ap_bNot, ap_bAnd, ap_bOr, ap_bCmp, boolO_some', ap_iE, ap_iR1, ap_iR2, ap_iEn, ap_iZip, ap_pN, ap_pS, ap_sl, call_ok, ap_call, callI_ok, ap_callIo, ap_hole, ls0, lsS, ap_bor', borE_int, borE_bool, ap_borT, borT_ok, ap_move, ap_sNil, ap_sPass, ap_seq, ap_asg, ap_asgs, ap_ret, ap_expr, ap_sIf, ap_for, ap_setIx, ap_mut, optE_some, tup0, tup1, tup2, tup3, lst0, lst1, lst2, lst3, aName, aCons, aNil, aTup2, Option.bind_some, Option.map_some, List.set_cons_zero, List.set_cons_succ, List.cons_append, List.nil_append, if_true, if_false, Bool.false_eq_true, if_pos, reduceIte, isi_lt_in, isi_bs_in, isi_i_in, isi_b_in, is_n, tru_b, isNone_i, eq_ii, decide_true, Bool.not_false]
    | str z =>
      have hz : shaped (.str z) = true := by simpa [okD] using hd
      have he : hEq (.str z) (.str z) = some (.bool true) := by unfold hEq; rw [hz, eqv_str]; rfl
      simp only [bd_ok, sb_ok, tn_nx, tn_rt, tn_bk, tn_ct, lo_some, slo_some, vr0, vrS, ap_var, ap_const, ap_pure, ap_bin, ap_nil, ap_cons, ap_star, ap_tup, ap_lst, ap_cb, ap_isi, ap_rgl, ap_if, ap_not, tru_t, tru_f, ap_or, ap_and, ap_toB, ap_bNot, ap_bAnd, ap_bOr, ap_bCmp, boolO_some', ap_iE, ap_iR1, ap_iR2, ap_iEn, ap_iZip, ap_pN, ap_pS, ap_sl, call_ok, ap_call, callI_ok, ap_callIo, ap_hole, ls0, lsS, ap_bor', borE_int, borE_bool, ap_borT, borT_ok, ap_move, ap_sNil, ap_sPass, ap_seq, ap_asg, ap_asgs, ap_ret, ap_expr, ap_sIf, ap_for, ap_setIx, ap_mut, optE_some, tup0, tup1, tup2, tup3, lst0, lst1, lst2, lst3, aName, aCons, aNil, aTup2, Option.bind_some, Option.map_some, List.set_cons_zero, List.set_cons_succ, List.cons_append, List.nil_append, if_true, if_false, Bool.false_eq_true, if_pos, reduceIte, isi_lt_st, isi_bs_st, isi_s_st, isi_b_st, is_n, tru_b, isNone_s, eq_bb, he, decide_true]
    | list ds =>
      rw [okD, Bool.and_eq_true, decide_eq_true_eq] at hd
      rw [PyData.depth] at hk
      have := seqs ds _ (.inl rfl) hd.2 hd.1 (by omega)
      simp only [bd_ok, sb_ok, tn_nx, tn_rt, tn_bk, tn_ct, lo_some, slo_some, vr0, vrS, ap_var, ap_const, ap_pure, ap_bin, ap_nil, ap_cons, ap_star, ap_tup, ap_lst, ap_cb, ap_isi, ap_rgl, ap_if, ap_not, tru_t, tru_f, ap_or, ap_and, ap_toB, ap_bNot, ap_bAnd, ap_bOr, ap_bCmp, boolO_some', ap_iE, ap_iR1, ap_iR2, ap_iEn, ap_iZip, ap_pN, ap_pS, ap_sl, call_ok, ap_call, callI_ok, ap_callIo, ap_hole, ls0, lsS, ap_bor', borE_int, borE_bool, ap_borT, borT_ok, ap_move, ap_sNil, ap_sPass, ap_seq, ap_asg, ap_asgs, ap_ret, ap_expr, ap_sIf, ap_for, ap_setIx, ap_mut, optE_some, tup0, tup1, tup2, tup3, lst0, lst1, lst2, lst3, aName, aCons, aNil, aTup2, Option.bind_some, Option.map_some, List.set_cons_zero, List.set_cons_succ, List.cons_append, List.nil_append, if_true, if_false, Bool.false_eq_true, if_pos, reduceIte, isi_lt_ls, isi_l_ls, isi_t_ls, tru_b, ne_bb, len_l, eq_ii, decide_true, Bool.not_true] at this ⊢
      simp only [bd_ok, sb_ok, tn_nx, tn_rt, tn_bk, tn_ct, lo_some, slo_some, vr0, vrS, ap_var, ap_const, ap_pure, ap_bin, ap_nil, ap_cons, ap_star, ap_tup, ap_lst, ap_cb, ap_isi, ap_rgl, ap_if, ap_not, tru_t, tru_f, ap_or, ap_and, ap_toB, ap_bNot, ap_bAnd, ap_bOr, ap_bCmp, boolO_some', ap_iE, ap_iR1, ap_iR2, ap_iEn, ap_iZip, ap_pN, ap_pS, ap_sl, call_ok, ap_call, callI_ok, ap_callIo, ap_hole, ls0, lsS, ap_bor', borE_int, borE_bool, ap_borT, borT_ok, ap_move, ap_sNil, ap_sPass, ap_seq, ap_asg, ap_asgs, ap_ret, ap_expr, ap_sIf, ap_for, ap_setIx, ap_mut, optE_some, tup0, tup1, tup2, tup3, lst0, lst1, lst2, lst3, aName, aCons, aNil, aTup2, Option.bind_some, Option.map_some, List.set_cons_zero, List.set_cons_succ, List.cons_append, List.nil_append, if_true, if_false, Bool.false_eq_true, if_pos, reduceIte, this]
    | tuple ds =>
      rw [okD, Bool.and_eq_true, decide_eq_true_eq] at hd
      rw [PyData.depth] at hk
      have := seqs ds _ (.inr rfl) hd.2 hd.1 (by omega)
      simp only [bd_ok, sb_ok, tn_nx, tn_rt, tn_bk, tn_ct, lo_some, slo_some, vr0, vrS, ap_var, ap_const, ap_pure, ap_bin, ap_nil, ap_cons, ap_star, ap_tup, ap_lst, ap_cb, ap_isi, ap_rgl, ap_if, ap_not, tru_t, tru_f, ap_or, ap_and, ap_toB, ap_bNot, ap_bAnd, ap_bOr, ap_bCmp, boolO_some', ap_iE, ap_iR1, ap_iR2, ap_iEn, ap_iZip, ap_pN, ap_pS, ap_sl, call_ok, ap_call, callI_ok, ap_callIo, ap_hole, ls0, lsS, ap_bor', borE_int, borE_bool, ap_borT, borT_ok, ap_move, ap_sNil, ap_sPass, ap_seq, ap_asg, ap_asgs, ap_ret, ap_expr, ap_sIf, ap_for, ap_setIx, ap_mut, optE_some, tup0, tup1, tup2, tup3, lst0, lst1, lst2, lst3, aName, aCons, aNil, aTup2, Option.bind_some, Option.map_some, List.set_cons_zero, List.set_cons_succ, List.cons_append, List.nil_append, if_true, if_false, Bool.false_eq_true, if_pos, reduceIte, isi_lt_tu, isi_l_tu, isi_t_tu, tru_b, ne_bb, len_t, eq_ii, decide_true, Bool.not_true] at this ⊢
      simp only [bd_ok, sb_ok, tn_nx, tn_rt, tn_bk, tn_ct, lo_some, slo_some, vr0, vrS, ap_var, ap_const, ap_pure, ap_bin, ap_nil, ap_cons, ap_star, ap_tup, ap_lst, ap_cb, ap_isi, ap_rgl, ap_if, ap_not, tru_t, tru_f, ap_or, ap_and, ap_toB, ap_bNot, ap_bAnd, ap_bOr, ap_bCmp, boolO_some', ap_iE, ap_iR1, ap_iR2, ap_iEn, ap_iZip, ap_pN, ap_pS, ap_sl, call_ok, ap_call, callI_ok, ap_callIo, ap_hole, ls0, lsS, ap_bor', borE_int, borE_bool, ap_borT, borT_ok, ap_move, ap_sNil, ap_sPass, ap_seq, ap_asg, ap_asgs, ap_ret, ap_expr, ap_sIf, ap_for, ap_setIx, ap_mut, optE_some, tup0, tup1, tup2, tup3, lst0, lst1, lst2, lst3, aName, aCons, aNil, aTup2, Option.bind_some, Option.map_some, List.set_cons_zero, List.set_cons_succ, List.cons_append, List.nil_append, if_true, if_false, Bool.false_eq_true, if_pos, reduceIte, this]
    | dict ds => cases hd
end L2.PV
set_option Elab.async false
set_option linter.all false
set_option maxRecDepth 100000
set_option maxHeartbeats 4000000
namespace L2.PV
open PySem PySem.Spec PyProof.Rows
open Enc (enc)
section
variable {α : Type} {f : α → Dat} {xs : List α}
theorem okDs_map (h : ∀ x ∈ xs, okD (f x) = true) : okDs (xs.map f) = true := by
  induction xs with
  | nil => simp [okDs]
  | cons x xs ih => rw [List.map_cons, okDs, h x (List.mem_cons_self ..), ih fun y hy => h y (List.mem_cons_of_mem _ hy)]; rfl
theorem okD_lst (hl : xs.length ≤ lineN) (h : ∀ x ∈ xs, okD (f x) = true) : okD (.list (xs.map f)) = true := by
  rw [okD, List.length_map, decide_eq_true hl, okDs_map h]; rfl
theorem okD_tup (hl : xs.length ≤ lineN) (h : ∀ x ∈ xs, okD (f x) = true) : okD (.tuple (xs.map f)) = true := by
  rw [okD, List.length_map, decide_eq_true hl, okDs_map h]; rfl
theorem okD_two {a b : Dat} (h1 : okD a = true) (h2 : okD b = true) : okD (.tuple [a, b]) = true := by
  rw [okD, okDs, okDs, okDs, h1, h2]; rfl
theorem okD_two_l {a b : Dat} (h1 : okD a = true) (h2 : okD b = true) : okD (.list [a, b]) = true := by
  rw [okD, okDs, okDs, okDs, h1, h2]; rfl
end
/-! ### the source of draws -/
def b_box (A B : Int) (φ : Str → FnSem) : MS := sSeq (sAsg (cIf (bCmp hLt (cVar 1) (cCB hLen (cCons (cVar 0) (cNil)))) (cBin hIx (cVar 0) (cVar 1)) (cConst (.int 0))) (aName 2)) (sSeq (sRet (cLst (cCons (cBin hMul (cCB hAbs (cCons (cVar 2) (cNil))) (cCB hInt (cCons (cBin hGe (cCB hAbs (cCons (cVar 2) (cNil))) (cBin hPow (cConst (.int 10)) (cConst (.int 18)))) (cNil)))) (cCons (cBin hAdd (cBin hAdd (cBin hMod (cCB hInt (cCons (cVar 2) (cNil))) (cConst (.int 2305843009213693951))) (cBin hMul (cConst (.int A)) (cVar 1))) (cConst (.int B))) (cCons (cConst (.int 0)) (cNil)))))) (sNil))
theorem pow18 : hPow (.int 10) (.int 18) = some (.int (10 ^ 18)) := Eq.trans rfl rfl
theorem box_ok {φ : Str → FnSem} (A B : Int) (cs : List Int) (hc : cs ≠ []) : ∃ u : Urn, runG ⟨2, none, true⟩ 3 (b_box A B φ) [.list (cs.map .int), .int 0] = .ok (.list u.d) .none ∧ u.ok 1000000000 := by
  obtain ⟨c, cs, rfl⟩ : ∃ c cs', cs = c :: cs' := by cases cs with | nil => exact absurd rfl hc | cons c cs => exact ⟨c, cs, rfl⟩
  obtain ⟨a, ha⟩ : ∃ a, a = (if c < 0 then -c else c) := ⟨_, rfl⟩
  have a0 : 0 ≤ a := by rw [ha]; split <;> omega
  refine ⟨⟨a * (if decide (10 ^ 18 ≤ a) then 1 else 0), c % 2305843009213693951 + A * 0 + B, 0⟩, runG_rt (ρ := [some (.list ((c :: cs).map .int)), some (.int 0), some (.int c)]) rfl ?_, ?_⟩
  · show b_box A B φ [some (.list ((c :: cs).map .int)), some (.int 0), none] = _
    unfold b_box
    have hlen : hLen [.list ((c :: cs).map PyData.int)] = some (.int (cs.length + 1)) := by show some (PyData.int (((c :: cs).map PyData.int).length : Nat)) = _; rw [List.length_map, List.length_cons]; rfl
    have hix : hIx (.list ((c :: cs).map PyData.int)) (.int 0) = some (.int c) := ix_list (by decide) rfl
    have hlt : decide ((0 : Int) < cs.length + 1) = true := decide_eq_true (by omega)
    have hmul : ∀ t : Bool, hMul (.int a) (.int (if t then 1 else 0)) = some (.int (a * (if t then 1 else 0))) := fun t => mul_ir (by cases t <;> decide)
    simp only [bd_ok, sb_ok, tn_nx, tn_rt, tn_bk, tn_ct, lo_some, slo_some, vr0, vrS, ap_var, ap_const, ap_pure, ap_bin, ap_nil, ap_cons, ap_star, ap_tup, ap_lst, ap_cb, ap_isi, ap_rgl, ap_if, ap_not, tru_t, tru_f, ap_or, ap_and, ap_toB, ap_bNot, ap_bAnd, ap_bOr, ap_bCmp, boolO_some', ap_iE, ap_iR1, ap_iR2, ap_iEn, ap_iZip, ap_pN, ap_pS, ap_sl, call_ok, ap_call, callI_ok, ap_callIo, ap_hole, ls0, lsS, ap_bor', borE_int, borE_bool, ap_borT, borT_ok, ap_move, ap_sNil, ap_sPass, ap_seq, ap_asg, ap_asgs, ap_ret, ap_expr, ap_sIf, ap_for, ap_setIx, ap_mut, optE_some, tup0, tup1, tup2, tup3, lst0, lst1, lst2, lst3, aName, aCons, aNil, aTup2, Option.bind_some, Option.map_some, List.set_cons_zero, List.set_cons_succ, List.cons_append, List.nil_append, if_true, if_false, Bool.false_eq_true, if_pos, reduceIte, hlen, lt_ii, hlt, hix, hmul, abs_i, ← ha, pow18, ge_ii, int_b, int_i, mod_ii (show (0 : Int) < 2305843009213693951 by decide), mul_ir (show -(2 ^ 64) < (0 : Int) ∧ (0 : Int) < 2 ^ 64 by decide), add_ii]
    rfl
  · refine ⟨?_, Int.le_refl _, by show (0 : Int) + (1000000000 : Nat) < 2 ^ 40; decide⟩
    dsimp only
    split
    · omega
    · omega
/-! ### lists in the place of tuples -/
def b_lists (φ : Str → FnSem) : MS := sSeq (sRet (cIf (toB (cIsi ["list", "tuple"] (cVar 0))) (cLc (iE (cVar 0)) (aName 1) (M.pure true) (cCall (φ "_law_lists") (cCons (cVar 1) (cNil))) [1]) (cVar 0))) (sNil)
section
variable {sem : Nat → Str → FnSem} (hs : ∀ k, sem (k + 1) "_law_lists" = runG ⟨1, none, false⟩ 2 (b_lists (sem k)))
include hs
theorem lists_int (k : Nat) (i : Int) : sem (k + 1) "_law_lists" [.int i] = .ok (.int i) .none := by
  rw [hs k]
  refine runG_rt (ρ := [some (.int i), none]) rfl ?_
  show b_lists (sem k) [some (.int i), none] = _
  unfold b_lists
  simp only [bd_ok, sb_ok, tn_nx, tn_rt, tn_bk, tn_ct, lo_some, slo_some, vr0, vrS, ap_var, ap_const, ap_pure, ap_bin, ap_nil, ap_cons, ap_star, ap_tup, ap_lst, ap_cb, ap_isi, ap_rgl, ap_if, ap_not, tru_t, tru_f, ap_or, ap_and, ap_toB, ap_bNot, ap_bAnd, ap_bOr, ap_bCmp, boolO_some', ap_iE, ap_iR1, ap_iR2, ap_iEn, ap_iZip, ap_pN, ap_pS, ap_sl, call_ok, ap_call, callI_ok, ap_callIo, ap_hole, ls0, lsS, ap_bor', borE_int, borE_bool, ap_borT, borT_ok, ap_move, ap_sNil, ap_sPass, ap_seq, ap_asg, ap_asgs, ap_ret, ap_expr, ap_sIf, ap_for, ap_setIx, ap_mut, optE_some, tup0, tup1, tup2, tup3, lst0, lst1, lst2, lst3, aName, aCons, aNil, aTup2, Option.bind_some, Option.map_some, List.set_cons_zero, List.set_cons_succ, List.cons_append, List.nil_append, if_true, if_false, Bool.false_eq_true, if_pos, reduceIte, isi_lt_in, tru_b]
theorem lists_tup {α : Type} (k : Nat) (en : α → Dat) (em : α → Dat) (xs : List α) (hl : xs.length ≤ lineN) (h : ∀ x ∈ xs, sem k "_law_lists" [en x] = .ok (em x) .none) : sem (k + 1) "_law_lists" [.tuple (xs.map en)] = .ok (.list (xs.map em)) .none := by
  rw [hs k]
  refine runG_rt (ρ := [some (.tuple (xs.map en)), none]) rfl ?_
  show b_lists (sem k) [some (.tuple (xs.map en)), none] = _
  unfold b_lists
  have hc := cLc_map (gi := iE (cVar 0)) (f := aName 1) (e := cCall (sem k "_law_lists") (cCons (cVar 1) (cNil))) (vs := [1]) (ρ := [some (.tuple (xs.map en)), none]) en (fun x => [some (.tuple (xs.map en)), some (en x)]) em xs
    (by simp only [bd_ok, sb_ok, tn_nx, tn_rt, tn_bk, tn_ct, lo_some, slo_some, vr0, vrS, ap_var, ap_const, ap_pure, ap_bin, ap_nil, ap_cons, ap_star, ap_tup, ap_lst, ap_cb, ap_isi, ap_rgl, ap_if, ap_not, tru_t, tru_f, ap_or, ap_and, ap_toB, ap_bNot, ap_bAnd, ap_bOr, ap_bCmp, boolO_some', ap_iE, ap_iR1, ap_iR2, ap_iEn, ap_iZip, ap_pN, ap_pS, ap_sl, call_ok, ap_call, callI_ok, ap_callIo, ap_hole, ls0, lsS, ap_bor', borE_int, borE_bool, ap_borT, borT_ok, ap_move, ap_sNil, ap_sPass, ap_seq, ap_asg, ap_asgs, ap_ret, ap_expr, ap_sIf, ap_for, ap_setIx, ap_mut, optE_some, tup0, tup1, tup2, tup3, lst0, lst1, lst2, lst3, aName, aCons, aNil, aTup2, Option.bind_some, Option.map_some, List.set_cons_zero, List.set_cons_succ, List.cons_append, List.nil_append, if_true, if_false, Bool.false_eq_true, if_pos, reduceIte, drawn_t]) rfl rfl hl (fun _ _ => rfl) (fun x m => by simp only [bd_ok, sb_ok, tn_nx, tn_rt, tn_bk, tn_ct, lo_some, slo_some, vr0, vrS, ap_var, ap_const, ap_pure, ap_bin, ap_nil, ap_cons, ap_star, ap_tup, ap_lst, ap_cb, ap_isi, ap_rgl, ap_if, ap_not, tru_t, tru_f, ap_or, ap_and, ap_toB, ap_bNot, ap_bAnd, ap_bOr, ap_bCmp, boolO_some', ap_iE, ap_iR1, ap_iR2, ap_iEn, ap_iZip, ap_pN, ap_pS, ap_sl, call_ok, ap_call, callI_ok, ap_callIo, ap_hole, ls0, lsS, ap_bor', borE_int, borE_bool, ap_borT, borT_ok, ap_move, ap_sNil, ap_sPass, ap_seq, ap_asg, ap_asgs, ap_ret, ap_expr, ap_sIf, ap_for, ap_setIx, ap_mut, optE_some, tup0, tup1, tup2, tup3, lst0, lst1, lst2, lst3, aName, aCons, aNil, aTup2, Option.bind_some, Option.map_some, List.set_cons_zero, List.set_cons_succ, List.cons_append, List.nil_append, if_true, if_false, Bool.false_eq_true, if_pos, reduceIte, h x m]) (fun _ _ => rfl)
  simp only [bd_ok, sb_ok, tn_nx, tn_rt, tn_bk, tn_ct, lo_some, slo_some, vr0, vrS, ap_var, ap_const, ap_pure, ap_bin, ap_nil, ap_cons, ap_star, ap_tup, ap_lst, ap_cb, ap_isi, ap_rgl, ap_if, ap_not, tru_t, tru_f, ap_or, ap_and, ap_toB, ap_bNot, ap_bAnd, ap_bOr, ap_bCmp, boolO_some', ap_iE, ap_iR1, ap_iR2, ap_iEn, ap_iZip, ap_pN, ap_pS, ap_sl, call_ok, ap_call, callI_ok, ap_callIo, ap_hole, ls0, lsS, ap_bor', borE_int, borE_bool, ap_borT, borT_ok, ap_move, ap_sNil, ap_sPass, ap_seq, ap_asg, ap_asgs, ap_ret, ap_expr, ap_sIf, ap_for, ap_setIx, ap_mut, optE_some, tup0, tup1, tup2, tup3, lst0, lst1, lst2, lst3, aName, aCons, aNil, aTup2, Option.bind_some, Option.map_some, List.set_cons_zero, List.set_cons_succ, List.cons_append, List.nil_append, if_true, if_false, Bool.false_eq_true, if_pos, reduceIte, isi_lt_tu, tru_b, hc]
theorem lists_rows (k : Nat) (rs : List (List Int)) (hl : rs.length ≤ lineN) (h : ∀ r ∈ rs, r.length ≤ lineN) : sem (k + 3) "_law_lists" [enc rs] = .ok (.list (rs.map fun r => .list (r.map .int))) .none :=
  lists_tup hs (k + 2) enc (fun r => .list (r.map .int)) rs hl fun r hr => lists_tup hs (k + 1) enc .int r (h r hr) fun i _ => lists_int hs k i
end
/-! ### all rows -/
theorem forL_meas {α τ : Type} {f : Tg} {b : MS} (en : α → Dat) (ev : τ → Env) (nx : τ → α → τ) (Q : List α → τ → Prop) (h : ∀ x xs s, Q (x :: xs) s → (∃ ρ1, f (en x) (ev s) = some ρ1 ∧ b ρ1 = .nx (ev (nx s x))) ∧ Q xs (nx s x)) : ∀ (xs : List α) (s : τ), Q xs s → forL f b (xs.map en) (ev s) = .nx (ev (xs.foldl nx s))
  | [], s, _ => rfl
  | x :: xs, s, q => by
    obtain ⟨⟨ρ1, h1, h2⟩, q'⟩ := h x xs s q
    rw [List.map_cons]
    unfold forL
    rw [h1]
    dsimp only
    rw [h2]
    exact forL_meas en ev nx Q h xs _ q'
def rgI (i : Nat) : Dat := .int (0 + (i : Nat))
theorem rg1_nat {n : Nat} (h : n ≤ 1000000) : rg1 [.int (n : Nat)] = some ((List.range n).map rgI) := by
  unfold rg1
  dsimp only
  rw [if_pos ⟨by omega, by omega⟩, Int.toNat_natCast]
  unfold rangeD
  exact congrArg some (List.map_congr_left fun i _ => rfl)
theorem map_eq_of {α β : Type} {f g : α → β} {l : List α} (h : ∀ x, f x = g x) : l.map f = l.map g := List.map_congr_left fun x _ => h x
def prs {α : Type} (rs : List α) : List (α × Int) := rs.flatMap fun r => [(r, 0), (r, 1)]
theorem prs_len {α : Type} (rs : List α) : (prs rs).length = 2 * rs.length := by
  unfold prs
  induction rs with
  | nil => rfl
  | cons r rs ih => rw [List.flatMap_cons, List.length_append, ih, List.length_cons, List.length_cons, List.length_cons, List.length_nil]; omega
theorem prs_map {α : Type} (en : α → Dat) (rs : List α) : (rs.flatMap fun r => ([0, 1] : List Int).map fun m => PyData.tuple [en r, .int m]) = (prs rs).map fun p => .tuple [en p.1, .int p.2] := by
  unfold prs
  induction rs with
  | nil => rfl
  | cons r rs ih => rw [List.flatMap_cons, List.flatMap_cons, List.map_append, ih]; rfl
def mk01 : Dat := .tuple [.int 0, .int 1]
theorem pairs01 {α : Type} {φ ψ : Str → FnSem} (hp : φ "_law_pairs" = runG ⟨2, none, false⟩ 5 (b_pairs ψ)) (en : α → Dat) (rs : List α) (hl : rs.length * 2 ≤ lineN) : φ "_law_pairs" [.list (rs.map en), .tuple [.int 0, .int 1]] = .ok (.list ((prs rs).map fun p => .tuple [en p.1, .int p.2])) .none := by
  rw [hp]
  have := pairs_ok (φ := ψ) en PyData.int false true rs [0, 1] (by simpa using hl) (by decide)
  rw [prs_map] at this
  exact this
def b_all_rows (φ : Str → FnSem) : MS := sSeq (sAsg (cLst (cCons (cTup (cNil)) (cNil))) (aName 1)) (sSeq (sFor (iR1 (cCons (cVar 0) (cNil))) (aName 2) (sSeq (sAsg (cLc (iE (cCall (φ "_law_pairs") (cCons (cVar 1) (cCons (cTup (cCons (cConst (.int 0)) (cCons (cConst (.int 1)) (cNil)))) (cNil))))) (aTup 2 (aCons (aName 3) (aCons (aName 4) (aNil)))) (M.pure true) (cBin hAdd (cVar 3) (cTup (cCons (cVar 4) (cNil)))) [3, 4]) (aName 1)) (sNil))) (sSeq (sRet (cVar 1)) (sNil)))
def nextR (rs : List (List Int)) : List (List Int) := (prs rs).map fun p => p.1 ++ [p.2]
def AR (n : Nat) : List (List Int) := (List.range n).foldl (fun rs _ => nextR rs) [[]]
theorem AR_succ (n : Nat) : AR (n + 1) = nextR (AR n) := by unfold AR; rw [List.range_succ, List.foldl_append]; rfl
theorem AR_len : ∀ n : Nat, (AR n).length = 2 ^ n
  | 0 => rfl
  | n + 1 => by rw [AR_succ, nextR, List.length_map, prs_len, AR_len n, Nat.pow_succ, Nat.mul_comm]
theorem AR_row : ∀ n : Nat, ∀ r ∈ AR n, r.length = n ∧ ∀ m ∈ r, m = 0 ∨ m = 1
  | 0, r, h => by
    have : r = [] := by simpa [AR] using h
    subst this
    exact ⟨rfl, fun _ h => by cases h⟩
  | n + 1, r, h => by
    rw [AR_succ, nextR] at h
    obtain ⟨p, hp, rfl⟩ := List.mem_map.mp h
    obtain ⟨q, hq, hpq⟩ := List.mem_flatMap.mp hp
    obtain ⟨h1, h2⟩ := AR_row n q hq
    simp only [List.mem_cons, List.not_mem_nil, or_false] at hpq
    have e : p.1 = q ∧ (p.2 = 0 ∨ p.2 = 1) := by rcases hpq with rfl | rfl <;> simp
    rw [e.1]
    refine ⟨by rw [List.length_append, h1]; rfl, fun m hm => ?_⟩
    rcases List.mem_append.mp hm with hm | hm
    · exact h2 m hm
    · rw [List.mem_singleton.mp hm]; exact e.2
theorem all_rows_ok {φ ψ : Str → FnSem} (hp : φ "_law_pairs" = runG ⟨2, none, false⟩ 5 (b_pairs ψ)) (n : Nat) (hn : n ≤ 20) : runG ⟨1, none, false⟩ 5 (b_all_rows φ) [.int (n : Nat)] = .ok (.list ((AR n).map enc)) .none := by
  have loop := forL_meas (τ := List (List Int) × Option Dat) (f := aName 2) (b := sSeq (sAsg (cLc (iE (cCall (φ "_law_pairs") (cCons (cVar 1) (cCons (cTup (cCons (cConst (.int 0)) (cCons (cConst (.int 1)) (cNil)))) (cNil))))) (aTup 2 (aCons (aName 3) (aCons (aName 4) (aNil)))) (M.pure true) (cBin hAdd (cVar 3) (cTup (cCons (cVar 4) (cNil)))) [3, 4]) (aName 1)) (sNil)) rgI
    (fun s => [some (.int (n : Nat)), some (.list (s.1.map enc)), s.2, none, none]) (fun s k => (nextR s.1, some (rgI k))) (fun xs s => s.1.length * 2 ^ xs.length ≤ 1048576 ∧ ∀ r ∈ s.1, r.length + xs.length ≤ 20) (fun k ks s q => by
      obtain ⟨rs, o⟩ := s
      obtain ⟨q1, q2⟩ := q
      dsimp only at q1 q2
      rw [List.length_cons, Nat.pow_succ] at q1
      have hpos : 0 < 2 ^ ks.length := Nat.two_pow_pos _
      have q3 : rs.length * 2 ≤ 1048576 := by
        refine Nat.le_trans ?_ q1
        rw [Nat.mul_comm (2 ^ ks.length) 2, ← Nat.mul_assoc]
        exact Nat.le_mul_of_pos_right _ hpos
      have q4 : rs.length * 2 ≤ lineN := Nat.le_trans q3 (by decide)
      refine ⟨⟨_, rfl, ?_⟩, ?_, ?_⟩
      · have hc := cLc_map (gi := iE (cCall (φ "_law_pairs") (cCons (cVar 1) (cCons (cTup (cCons (cConst (.int 0)) (cCons (cConst (.int 1)) (cNil)))) (cNil))))) (f := aTup 2 (aCons (aName 3) (aCons (aName 4) (aNil)))) (e := cBin hAdd (cVar 3) (cTup (cCons (cVar 4) (cNil)))) (vs := [3, 4]) (ρ := [some (.int (n : Nat)), some (.list (rs.map enc)), some (rgI k), none, none]) (fun p => .tuple [enc p.1, .int p.2]) (fun p => [some (.int (n : Nat)), some (.list (rs.map enc)), some (rgI k), some (enc p.1), some (.int p.2)]) (fun p => enc (p.1 ++ [p.2])) (prs rs)
          (by simp only [bd_ok, sb_ok, tn_nx, tn_rt, tn_bk, tn_ct, lo_some, slo_some, vr0, vrS, ap_var, ap_const, ap_pure, ap_bin, ap_nil, ap_cons, ap_star, ap_tup, ap_lst, ap_cb, ap_isi, ap_rgl, ap_if, ap_not, tru_t, tru_f, ap_or, ap_and, ap_toB, ap_bNot, ap_bAnd, ap_bOr, ap_bCmp, boolO_some', ap_iE, ap_iR1, ap_iR2, ap_iEn, ap_iZip, ap_pN, ap_pS, ap_sl, call_ok, ap_call, callI_ok, ap_callIo, ap_hole, ls0, lsS, ap_bor', borE_int, borE_bool, ap_borT, borT_ok, ap_move, ap_sNil, ap_sPass, ap_seq, ap_asg, ap_asgs, ap_ret, ap_expr, ap_sIf, ap_for, ap_setIx, ap_mut, optE_some, tup0, tup1, tup2, tup3, lst0, lst1, lst2, lst3, aName, aCons, aNil, aTup2, Option.bind_some, Option.map_some, List.set_cons_zero, List.set_cons_succ, List.cons_append, List.nil_append, if_true, if_false, Bool.false_eq_true, if_pos, reduceIte, pairs01 hp enc rs q4, drawn_l]) rfl rfl (by rw [prs_len]; omega) (fun _ _ => rfl) (fun p m => by
            have hm : p.1.length + 1 ≤ lineN := by
              obtain ⟨q, hq, hpq⟩ := List.mem_flatMap.mp m
              have := q2 q hq
              simp only [List.mem_cons, List.not_mem_nil, or_false] at hpq
              have e : p.1 = q := by rcases hpq with rfl | rfl <;> rfl
              rw [e]
              refine Nat.le_trans ?_ (show 21 ≤ lineN by decide)
              omega
            have ha : hAdd (enc p.1) (.tuple [.int p.2]) = some (enc (p.1 ++ [p.2])) := by
              rw [enc_list, enc_list, List.map_append]
              exact add_tt (by rw [List.length_map]; exact hm)
            simp only [bd_ok, sb_ok, tn_nx, tn_rt, tn_bk, tn_ct, lo_some, slo_some, vr0, vrS, ap_var, ap_const, ap_pure, ap_bin, ap_nil, ap_cons, ap_star, ap_tup, ap_lst, ap_cb, ap_isi, ap_rgl, ap_if, ap_not, tru_t, tru_f, ap_or, ap_and, ap_toB, ap_bNot, ap_bAnd, ap_bOr, ap_bCmp, boolO_some', ap_iE, ap_iR1, ap_iR2, ap_iEn, ap_iZip, ap_pN, ap_pS, ap_sl, call_ok, ap_call, callI_ok, ap_callIo, ap_hole, ls0, lsS, ap_bor', borE_int, borE_bool, ap_borT, borT_ok, ap_move, ap_sNil, ap_sPass, ap_seq, ap_asg, ap_asgs, ap_ret, ap_expr, ap_sIf, ap_for, ap_setIx, ap_mut, optE_some, tup0, tup1, tup2, tup3, lst0, lst1, lst2, lst3, aName, aCons, aNil, aTup2, Option.bind_some, Option.map_some, List.set_cons_zero, List.set_cons_succ, List.cons_append, List.nil_append, if_true, if_false, Bool.false_eq_true, if_pos, reduceIte, ha]) (fun _ _ => rfl)
        simp only [bd_ok, sb_ok, tn_nx, tn_rt, tn_bk, tn_ct, lo_some, slo_some, vr0, vrS, ap_var, ap_const, ap_pure, ap_bin, ap_nil, ap_cons, ap_star, ap_tup, ap_lst, ap_cb, ap_isi, ap_rgl, ap_if, ap_not, tru_t, tru_f, ap_or, ap_and, ap_toB, ap_bNot, ap_bAnd, ap_bOr, ap_bCmp, boolO_some', ap_iE, ap_iR1, ap_iR2, ap_iEn, ap_iZip, ap_pN, ap_pS, ap_sl, call_ok, ap_call, callI_ok, ap_callIo, ap_hole, ls0, lsS, ap_bor', borE_int, borE_bool, ap_borT, borT_ok, ap_move, ap_sNil, ap_sPass, ap_seq, ap_asg, ap_asgs, ap_ret, ap_expr, ap_sIf, ap_for, ap_setIx, ap_mut, optE_some, tup0, tup1, tup2, tup3, lst0, lst1, lst2, lst3, aName, aCons, aNil, aTup2, Option.bind_some, Option.map_some, List.set_cons_zero, List.set_cons_succ, List.cons_append, List.nil_append, if_true, if_false, Bool.false_eq_true, if_pos, reduceIte, hc]
        unfold nextR
        rw [List.map_map]
        rfl
      · show (nextR rs).length * 2 ^ ks.length ≤ 1048576
        unfold nextR
        rw [List.length_map, prs_len]
        refine Nat.le_trans (Nat.le_of_eq ?_) q1
        rw [Nat.mul_comm (2 ^ ks.length) 2, ← Nat.mul_assoc, Nat.mul_comm 2 rs.length]
      · intro r hr
        have hr : r ∈ nextR rs := hr
        obtain ⟨p, hp', rfl⟩ := List.mem_map.mp hr
        obtain ⟨q, hq, hpq⟩ := List.mem_flatMap.mp hp'
        have := q2 q hq
        simp only [List.mem_cons, List.not_mem_nil, or_false] at hpq
        have e : p.1 = q := by rcases hpq with rfl | rfl <;> rfl
        rw [List.length_append, e, List.length_cons, List.length_nil]
        rw [List.length_cons] at this
        omega) (List.range n) ([[]], none) ⟨by
          show [([] : List Int)].length * 2 ^ (List.range n).length ≤ 1048576
          rw [List.length_range, List.length_singleton, Nat.one_mul]
          exact Nat.le_trans (Nat.pow_le_pow_right (by decide) hn) (by decide), fun r hr => by
          have : r = [] := by simpa using hr
          rw [this, List.length_range]; simpa using hn⟩
  have fold : ((List.range n).foldl (fun (s : List (List Int) × Option Dat) k => (nextR s.1, some (rgI k))) ([[]], none)).1 = AR n := by
    unfold AR
    have : ∀ (l : List Nat) (s : List (List Int)) (o : Option Dat), (l.foldl (fun (s : List (List Int) × Option Dat) k => (nextR s.1, some (rgI k))) (s, o)).1 = l.foldl (fun rs _ => nextR rs) s := by
      intro l
      induction l with
      | nil => intro s o; rfl
      | cons x l ih => intro s o; rw [List.foldl_cons, List.foldl_cons]; exact ih _ _
    exact this _ _ _
  obtain ⟨s, hs⟩ : ∃ s, s = (List.range n).foldl (fun (s : List (List Int) × Option Dat) k => (nextR s.1, some (rgI k))) ([[]], none) := ⟨_, rfl⟩
  rw [← hs] at loop fold
  refine runG_rt (ρ := [some (.int (n : Nat)), some (.list ((AR n).map enc)), s.2, none, none]) rfl ?_
  show b_all_rows φ [some (.int (n : Nat)), none, none, none, none] = _
  unfold b_all_rows
  rw [fold] at loop
  have e0 : [some (PyData.int (n : Nat)), some (PyData.list (([[]] : List (List Int)).map enc)), none, none, none] = [some (PyData.int (n : Nat)), some (PyData.list [.tuple []]), none, none, none] := rfl
  dsimp only at loop
  rw [e0] at loop
  simp only [bd_ok, sb_ok, tn_nx, tn_rt, tn_bk, tn_ct, lo_some, slo_some, vr0, vrS, ap_var, ap_const, ap_pure, ap_bin, ap_nil, ap_cons, ap_star, ap_tup, ap_lst, ap_cb, ap_isi, ap_rgl, ap_if, ap_not, tru_t, tru_f, ap_or, ap_and, ap_toB, ap_bNot, ap_bAnd, ap_bOr, ap_bCmp, boolO_some', ap_iE, ap_iR1, ap_iR2, ap_iEn, ap_iZip, ap_pN, ap_pS, ap_sl, call_ok, ap_call, callI_ok, ap_callIo, ap_hole, ls0, lsS, ap_bor', borE_int, borE_bool, ap_borT, borT_ok, ap_move, ap_sNil, ap_sPass, ap_seq, ap_asg, ap_asgs, ap_ret, ap_expr, ap_sIf, ap_for, ap_setIx, ap_mut, optE_some, tup0, tup1, tup2, tup3, lst0, lst1, lst2, lst3, aName, aCons, aNil, aTup2, Option.bind_some, Option.map_some, List.set_cons_zero, List.set_cons_succ, List.cons_append, List.nil_append, if_true, if_false, Bool.false_eq_true, if_pos, reduceIte, rg1_nat (Nat.le_trans hn (by decide)), loop]
end L2.PV
set_option Elab.async false
set_option linter.all false
set_option maxRecDepth 100000
set_option maxHeartbeats 4000000
namespace L2.PV
open PySem PySem.Spec PyProof.Rows
open Enc (enc)
/-! ### some rows -/
theorem compR_st {α τ : Type} {f : Tg} {t : M Bool} {e : M Dat} {vs : List Nat} (en : α → Dat) (ev : τ → Env) (ed : τ → α → Env) (P : Nat → τ → Prop) : ∀ (xs : List α) (s : τ), P xs.length s →
    (∀ x ∈ xs, ∀ s, f (en x) (ev s) = some (ed s x)) → (∀ x ∈ xs, ∀ n s, P (n + 1) s → ∃ b s', t (ed s x) = .ok b (ed s' x) ∧ P n s') → (∀ x ∈ xs, ∀ s, e (ed s x) = .ok (en x) (ed s x)) → (∀ x ∈ xs, ∀ s, wipeE (ed s x) vs = ev s) →
    ∃ (sub : List α) (s' : τ), sub.Sublist xs ∧ compR f t e vs (xs.map en) (ev s) = .ok (sub.map en) (ev s') ∧ P 0 s'
  | [], s, p, _, _, _, _ => ⟨[], s, List.Sublist.refl _, rfl, p⟩
  | x :: xs, s, p, h1, h2, h3, h4 => by
    have m := List.mem_cons_self (a := x) (l := xs)
    obtain ⟨b, s1, e1, p1⟩ := h2 x m _ s p
    obtain ⟨sub, s2, q1, q2, q3⟩ := compR_st en ev ed P xs s1 p1 (fun z hz => h1 z (List.mem_cons_of_mem _ hz)) (fun z hz => h2 z (List.mem_cons_of_mem _ hz)) (fun z hz => h3 z (List.mem_cons_of_mem _ hz)) (fun z hz => h4 z (List.mem_cons_of_mem _ hz))
    rw [List.map_cons]
    unfold compR
    rw [h1 x m]
    dsimp only
    rw [e1]
    cases b with
    | true =>
      dsimp only
      rw [h3 x m]
      dsimp only
      rw [h4 x m, q2]
      exact ⟨x :: sub, s2, q1.cons₂ x, rfl, q3⟩
    | false =>
      dsimp only
      rw [h4 x m, q2]
      exact ⟨sub, s2, q1.cons x, rfl, q3⟩
def b_some_rows (φ : Str → FnSem) : MS := sSeq (sAsgs (cCons (cCall (φ "_law_all_rows") (cCons (cVar 1) (cNil))) (cCons (cBin hAdd (cConst (.int 1)) (cCallIo (φ "_law_take") 0 0 (cCons (cHole 0) (cCons (cConst (.int 3)) (cNil))))) (cNil))) [2, 3]) (sSeq (sRet (cCB hTuple (cCons (cLc (iE (cVar 2)) (aName 4) (bCmp hLt (cCallIo (φ "_law_take") 0 0 (cCons (cHole 0) (cCons (cConst (.int 4)) (cNil)))) (cVar 3)) (cVar 4) [4]) (cNil)))) (sNil))
theorem set0 {a b : Dat} {ds : List Dat} : (a :: ds).set 0 b = b :: ds := Eq.trans rfl rfl
theorem Urn.le {u : Urn} {n m : Nat} (h : u.ok n) (hm : m ≤ n) : u.ok m := ⟨h.1, h.2.1, by have := h.2.2; omega⟩
theorem some_rows_ok {φ ψ : Str → FnSem} (ht : φ "_law_take" = runG ⟨2, some 0, false⟩ 6 (b_take ψ)) {n : Nat} (ha : φ "_law_all_rows" [.int (n : Nat)] = .ok (.list ((AR n).map enc)) .none) (hn : n ≤ 20) (u : Urn) {k : Nat} (hu : u.ok (k + 2 ^ n + 1)) :
    ∃ (rows : List (List Int)) (u' : Urn), rows.Sublist (AR n) ∧ runG ⟨2, some 0, false⟩ 5 (b_some_rows φ) [.list u.d, .int (n : Nat)] = .ok (enc rows) (.list u'.d) ∧ Urn.ok u' k := by
  obtain ⟨r, u1, e1, hr, h1⟩ := take_ok (φ := ψ) u 3 hu (by decide)
  rw [← ht] at e1
  have hl : (AR n).length ≤ lineN := by
    rw [AR_len]
    exact Nat.le_trans (Nat.pow_le_pow_right (by decide) hn) (by decide)
  obtain ⟨sub, u2, q1, q2, q3⟩ := compR_st (f := aName 4) (t := bCmp hLt (cCallIo (φ "_law_take") 0 0 (cCons (cHole 0) (cCons (cConst (.int 4)) (cNil)))) (cVar 3)) (e := cVar 4) (vs := [4]) (enc (α := List Int)) (fun u : Urn => [some (.list u.d), some (.int (n : Nat)), some (.list ((AR n).map enc)), some (.int (1 + r)), none]) (fun u x => [some (.list u.d), some (.int (n : Nat)), some (.list ((AR n).map enc)), some (.int (1 + r)), some (enc x)]) (fun m u => u.ok (k + m)) (AR n) u1 (by rw [AR_len]; exact h1)
    (fun _ _ _ => rfl) (fun x _ m u hu => by
      obtain ⟨r', u', e', hr', h'⟩ := take_ok (φ := ψ) u 4 hu (by decide)
      rw [← ht] at e'
      refine ⟨decide (r' < 1 + r), u', ?_, h'⟩
      simp only [bd_ok, sb_ok, tn_nx, tn_rt, tn_bk, tn_ct, lo_some, slo_some, vr0, vrS, ap_var, ap_const, ap_pure, ap_bin, ap_nil, ap_cons, ap_star, ap_tup, ap_lst, ap_cb, ap_isi, ap_rgl, ap_if, ap_not, tru_t, tru_f, ap_or, ap_and, ap_toB, ap_bNot, ap_bAnd, ap_bOr, ap_bCmp, boolO_some', ap_iE, ap_iR1, ap_iR2, ap_iEn, ap_iZip, ap_pN, ap_pS, ap_sl, call_ok, ap_call, callI_ok, ap_callIo, ap_hole, ls0, lsS, ap_bor', borE_int, borE_bool, ap_borT, borT_ok, ap_move, ap_sNil, ap_sPass, ap_seq, ap_asg, ap_asgs, ap_ret, ap_expr, ap_sIf, ap_for, ap_setIx, ap_mut, optE_some, tup0, tup1, tup2, tup3, lst0, lst1, lst2, lst3, aName, aCons, aNil, aTup2, Option.bind_some, Option.map_some, List.set_cons_zero, List.set_cons_succ, List.cons_append, List.nil_append, if_true, if_false, Bool.false_eq_true, if_pos, reduceIte, set0, e', lt_ii]) (fun _ _ _ => by simp only [bd_ok, sb_ok, tn_nx, tn_rt, tn_bk, tn_ct, lo_some, slo_some, vr0, vrS, ap_var, ap_const, ap_pure, ap_bin, ap_nil, ap_cons, ap_star, ap_tup, ap_lst, ap_cb, ap_isi, ap_rgl, ap_if, ap_not, tru_t, tru_f, ap_or, ap_and, ap_toB, ap_bNot, ap_bAnd, ap_bOr, ap_bCmp, boolO_some', ap_iE, ap_iR1, ap_iR2, ap_iEn, ap_iZip, ap_pN, ap_pS, ap_sl, call_ok, ap_call, callI_ok, ap_callIo, ap_hole, ls0, lsS, ap_bor', borE_int, borE_bool, ap_borT, borT_ok, ap_move, ap_sNil, ap_sPass, ap_seq, ap_asg, ap_asgs, ap_ret, ap_expr, ap_sIf, ap_for, ap_setIx, ap_mut, optE_some, tup0, tup1, tup2, tup3, lst0, lst1, lst2, lst3, aName, aCons, aNil, aTup2, Option.bind_some, Option.map_some, List.set_cons_zero, List.set_cons_succ, List.cons_append, List.nil_append, if_true, if_false, Bool.false_eq_true, if_pos, reduceIte]) (fun _ _ _ => rfl)
  refine ⟨sub, u2, q1, runG_io (ρ := [some (.list u2.d), some (.int (n : Nat)), some (.list ((AR n).map enc)), some (.int (1 + r)), none]) rfl rfl rfl ?_, q3⟩
  show b_some_rows φ [some (.list u.d), some (.int (n : Nat)), none, none, none] = _
  unfold b_some_rows
  have hc : cLc (iE (cVar 2)) (aName 4) (bCmp hLt (cCallIo (φ "_law_take") 0 0 (cCons (cHole 0) (cCons (cConst (.int 4)) (cNil)))) (cVar 3)) (cVar 4) [4] [some (.list u1.d), some (.int (n : Nat)), some (.list ((AR n).map enc)), some (.int (1 + r)), none] = .ok (.list (sub.map enc)) [some (.list u2.d), some (.int (n : Nat)), some (.list ((AR n).map enc)), some (.int (1 + r)), none] := by
    unfold cLc
    rw [bind_bd]
    simp only [bd_ok, sb_ok, tn_nx, tn_rt, tn_bk, tn_ct, lo_some, slo_some, vr0, vrS, ap_var, ap_const, ap_pure, ap_bin, ap_nil, ap_cons, ap_star, ap_tup, ap_lst, ap_cb, ap_isi, ap_rgl, ap_if, ap_not, tru_t, tru_f, ap_or, ap_and, ap_toB, ap_bNot, ap_bAnd, ap_bOr, ap_bCmp, boolO_some', ap_iE, ap_iR1, ap_iR2, ap_iEn, ap_iZip, ap_pN, ap_pS, ap_sl, call_ok, ap_call, callI_ok, ap_callIo, ap_hole, ls0, lsS, ap_bor', borE_int, borE_bool, ap_borT, borT_ok, ap_move, ap_sNil, ap_sPass, ap_seq, ap_asg, ap_asgs, ap_ret, ap_expr, ap_sIf, ap_for, ap_setIx, ap_mut, optE_some, tup0, tup1, tup2, tup3, lst0, lst1, lst2, lst3, aName, aCons, aNil, aTup2, Option.bind_some, Option.map_some, List.set_cons_zero, List.set_cons_succ, List.cons_append, List.nil_append, if_true, if_false, Bool.false_eq_true, if_pos, reduceIte, drawn_l]
    have w : wipeE [some (PyData.list u1.d), some (.int (n : Nat)), some (.list ((AR n).map enc)), some (.int (1 + r)), none] [4] = [some (.list u1.d), some (.int (n : Nat)), some (.list ((AR n).map enc)), some (.int (1 + r)), none] := rfl
    rw [w, q2]
    dsimp only
    rw [if_pos (by rw [List.length_map]; exact Nat.le_trans q1.length_le hl)]
    rfl
  have l2 : [PyData.list ((AR n).map enc), PyData.int (1 + r)].length ≤ lineN := show (2 : Nat) ≤ lineN by decide
  have sa : setAll [some (PyData.list u1.d), some (.int (n : Nat)), none, none, none] [2, 3] [PyData.list ((AR n).map enc), PyData.int (1 + r)] = [some (.list u1.d), some (.int (n : Nat)), some (.list ((AR n).map enc)), some (.int (1 + r)), none] := rfl
  simp only [bd_ok, sb_ok, tn_nx, tn_rt, tn_bk, tn_ct, lo_some, slo_some, vr0, vrS, ap_var, ap_const, ap_pure, ap_bin, ap_nil, ap_cons, ap_star, ap_tup, ap_lst, ap_cb, ap_isi, ap_rgl, ap_if, ap_not, tru_t, tru_f, ap_or, ap_and, ap_toB, ap_bNot, ap_bAnd, ap_bOr, ap_bCmp, boolO_some', ap_iE, ap_iR1, ap_iR2, ap_iEn, ap_iZip, ap_pN, ap_pS, ap_sl, call_ok, ap_call, callI_ok, ap_callIo, ap_hole, ls0, lsS, ap_bor', borE_int, borE_bool, ap_borT, borT_ok, ap_move, ap_sNil, ap_sPass, ap_seq, ap_asg, ap_asgs, ap_ret, ap_expr, ap_sIf, ap_for, ap_setIx, ap_mut, optE_some, tup0, tup1, tup2, tup3, lst0, lst1, lst2, lst3, aName, aCons, aNil, aTup2, Option.bind_some, Option.map_some, List.set_cons_zero, List.set_cons_succ, List.cons_append, List.nil_append, if_true, if_false, Bool.false_eq_true, if_pos, reduceIte, ha, set0, e1, add_ii]
  rw [if_pos l2]
  simp only [bd_ok, sb_ok, tn_nx, tn_rt, tn_bk, tn_ct, lo_some, slo_some, vr0, vrS, ap_var, ap_const, ap_pure, ap_bin, ap_nil, ap_cons, ap_star, ap_tup, ap_lst, ap_cb, ap_isi, ap_rgl, ap_if, ap_not, tru_t, tru_f, ap_or, ap_and, ap_toB, ap_bNot, ap_bAnd, ap_bOr, ap_bCmp, boolO_some', ap_iE, ap_iR1, ap_iR2, ap_iEn, ap_iZip, ap_pN, ap_pS, ap_sl, call_ok, ap_call, callI_ok, ap_callIo, ap_hole, ls0, lsS, ap_bor', borE_int, borE_bool, ap_borT, borT_ok, ap_move, ap_sNil, ap_sPass, ap_seq, ap_asg, ap_asgs, ap_ret, ap_expr, ap_sIf, ap_for, ap_setIx, ap_mut, optE_some, tup0, tup1, tup2, tup3, lst0, lst1, lst2, lst3, aName, aCons, aNil, aTup2, Option.bind_some, Option.map_some, List.set_cons_zero, List.set_cons_succ, List.cons_append, List.nil_append, if_true, if_false, Bool.false_eq_true, if_pos, reduceIte, sa, hc]
  rfl
/-! ### sayings -/
abbrev Say := List (Int × Int)
def nextS (q : Int) (ss : List Say) : List Say := ss ++ ss.flatMap fun s => [s ++ [(q, 0)], s ++ [(q, 1)]]
def SAYS (n : Nat) : List Say := (List.range n).foldl (fun ss (q : Nat) => nextS (q : Int) ss) [[]]
theorem SAYS_succ (n : Nat) : SAYS (n + 1) = nextS n (SAYS n) := by unfold SAYS; rw [List.range_succ, List.foldl_append]; rfl
theorem ext_len (q : Int) (ss : List Say) : (ss.flatMap fun s => [s ++ [(q, 0)], s ++ [(q, 1)]]).length = 2 * ss.length := by
  induction ss with
  | nil => rfl
  | cons s ss ih => rw [List.flatMap_cons, List.length_append, ih, List.length_cons, List.length_cons, List.length_cons, List.length_nil]; omega
theorem nextS_len (q : Int) (ss : List Say) : (nextS q ss).length = 3 * ss.length := by
  unfold nextS; rw [List.length_append, ext_len]; omega
theorem SAYS_len : ∀ n : Nat, (SAYS n).length = 3 ^ n
  | 0 => rfl
  | n + 1 => by rw [SAYS_succ, nextS_len, SAYS_len n, Nat.pow_succ, Nat.mul_comm]
/-- a saying about n questions: the questions rise, the marks are 0 or 1 -/
def SayOk (n : Nat) (s : Say) : Prop := s.length ≤ n ∧ (s.map Prod.fst).Pairwise (· < ·) ∧ ∀ a ∈ s, (0 ≤ a.1 ∧ a.1 < n) ∧ (a.2 = 0 ∨ a.2 = 1)
theorem SAYS_ok : ∀ n : Nat, ∀ s ∈ SAYS n, SayOk n s
  | 0, s, h => by
    have : s = [] := by simpa [SAYS] using h
    subst this
    exact ⟨Nat.le_refl _, List.Pairwise.nil, fun _ h => by cases h⟩
  | n + 1, s, h => by
    rw [SAYS_succ, nextS] at h
    rcases List.mem_append.mp h with h | h
    · obtain ⟨h1, h2, h3⟩ := SAYS_ok n s h
      exact ⟨Nat.le_succ_of_le h1, h2, fun a ha => ⟨⟨(h3 a ha).1.1, by have := (h3 a ha).1.2; omega⟩, (h3 a ha).2⟩⟩
    · obtain ⟨t, ht, hs⟩ := List.mem_flatMap.mp h
      obtain ⟨h1, h2, h3⟩ := SAYS_ok n t ht
      simp only [List.mem_cons, List.not_mem_nil, or_false] at hs
      obtain ⟨m, hm, rfl⟩ : ∃ m : Int, (m = 0 ∨ m = 1) ∧ s = t ++ [((n : Int), m)] := by
        rcases hs with rfl | rfl
        · exact ⟨0, .inl rfl, rfl⟩
        · exact ⟨1, .inr rfl, rfl⟩
      refine ⟨by rw [List.length_append, List.length_singleton]; omega, ?_, fun a ha => ?_⟩
      · rw [List.map_append, List.pairwise_append]
        refine ⟨h2, List.pairwise_singleton _ _, fun a ha b hb => ?_⟩
        obtain ⟨c, hc, rfl⟩ := List.mem_map.mp ha
        have : b = (n : Int) := by simpa using hb
        rw [this]
        exact (h3 c hc).1.2
      · rcases List.mem_append.mp ha with ha | ha
        · exact ⟨⟨(h3 a ha).1.1, by have := (h3 a ha).1.2; omega⟩, (h3 a ha).2⟩
        · rw [List.mem_singleton.mp ha]
          exact ⟨⟨by show (0 : Int) ≤ n; omega, by show (n : Int) < ((n + 1 : Nat) : Int); omega⟩, hm⟩
abbrev LS1 (ss : List Say) : List (Int × Say) := ss.map fun s => ((s.length : Int), s)
/-- all sayings, shorter ones ahead -/
noncomputable def AS (n : Nat) : List Say := (sortT (LS1 (SAYS n))).map Prod.snd
theorem AS_mem {n : Nat} {s : Say} : s ∈ AS n ↔ s ∈ SAYS n := by
  unfold AS
  rw [List.mem_map]
  constructor
  · rintro ⟨p, hp, rfl⟩
    obtain ⟨t, ht, rfl⟩ := List.mem_map.mp (sortT_mem.mp hp)
    exact ht
  · intro h
    exact ⟨_, sortT_mem.mpr (List.mem_map.mpr ⟨s, h, rfl⟩), rfl⟩
theorem AS_len (n : Nat) : (AS n).length = 3 ^ n := by unfold AS; rw [List.length_map, sortT_len, List.length_map, SAYS_len]
theorem lex_len {x y : Say} (h : (x.length : Int) < y.length) : PySem.W.dataLt (enc ((x.length : Int), x)) (enc ((y.length : Int), y)) = true := by
  show PyProof.Rows.lexLt PyProof.Rows.itemOrd (PySem.W.keyToks (.tuple [.int x.length, enc x])) (PySem.W.keyToks (.tuple [.int y.length, enc y])) = true
  simp only [PySem.W.keyToks, PySem.W.keyToksAll, List.cons_append, List.nil_append]
  simp only [PyProof.Rows.lexLt]
  simp [PyProof.Rows.itemOrd, PyProof.Rows.itemLt, h]
theorem AS_sorted (n : Nat) : (AS n).Pairwise fun s t => s.length ≤ t.length := by
  unfold AS
  rw [List.pairwise_map]
  refine (sortT_sorted _).imp_of_mem fun {a b} ha hb h => ?_
  obtain ⟨s, _, rfl⟩ := List.mem_map.mp (sortT_mem.mp ha)
  obtain ⟨t, _, rfl⟩ := List.mem_map.mp (sortT_mem.mp hb)
  by_cases c : s.length ≤ t.length
  · exact c
  · have h2 := lex_len (x := t) (y := s) (by omega)
    have h : PySem.W.dataLe false id (enc ((s.length : Int), s)) (enc ((t.length : Int), t)) = true := h
    rw [PySem.W.dataLe_eq] at h
    have h : (!PySem.W.dataLt (enc ((t.length : Int), t)) (enc ((s.length : Int), s))) = true := h
    rw [h2] at h
    cases h
end L2.PV
set_option Elab.async false
set_option linter.all false
set_option maxRecDepth 100000
set_option maxHeartbeats 4000000
namespace L2.PV
open PySem PySem.Spec PyProof.Rows
open Enc (enc)
theorem add_enc {α : Type} [DecidableEq α] [Enc α] {xs ys : List α} (h : xs.length + ys.length ≤ lineN) : hAdd (enc xs) (enc ys) = some (enc (xs ++ ys)) := by
  rw [enc_list, enc_list, enc_list, List.map_append]
  exact add_tt (by rw [List.length_map, List.length_map]; exact h)
theorem add_lst {α : Type} {f : α → Dat} {xs ys : List α} (h : xs.length + ys.length ≤ lineN) : hAdd (.list (xs.map f)) (.list (ys.map f)) = some (.list ((xs ++ ys).map f)) := by
  rw [List.map_append]
  exact add_ll (by rw [List.length_map, List.length_map]; exact h)
theorem three_le {n : Nat} (h : n ≤ 13) : 3 ^ n ≤ 1594323 := Nat.le_trans (Nat.pow_le_pow_right (by decide) h) (by decide)
/-! ### the program's sayings -/
noncomputable def b_every (φ : Str → FnSem) : MS := sSeq (sAsg (cLst (cCons (cTup (cNil)) (cNil))) (aName 1)) (sSeq (sFor (iR1 (cCons (cVar 0) (cNil))) (aName 2) (sSeq (sAsg (cBin hAdd (cVar 1) (cLc2 (iE (cVar 1)) (aName 4) (M.pure true) (cIn (iE (cConst (.tuple [.int 0, .int 1]))) (aName 5) (M.pure true) (cTup (cStar (cVar 4) (cCons (cTup (cCons (cVar 2) (cCons (cVar 5) (cNil)))) (cNil)))) [5]) [4, 5])) (aName 1)) (sNil))) (sSeq (sRet (cLc (iE (cCB hSorted1 (cCons (cLc (iE (cVar 1)) (aName 4) (M.pure true) (cTup (cCons (cCB hLen (cCons (cVar 4) (cNil))) (cCons (cVar 4) (cNil)))) [4]) (cNil)))) (aTup 2 (aCons (aName 3) (aCons (aName 4) (aNil)))) (M.pure true) (cVar 4) [3, 4])) (sNil)))
noncomputable def b_allsay (φ : Str → FnSem) : MS := sSeq (sAsg (cLst (cCons (cTup (cNil)) (cNil))) (aName 1)) (sSeq (sFor (iR1 (cCons (cVar 0) (cNil))) (aName 2) (sSeq (sAsg (cBin hAdd (cVar 1) (cLc (iE (cCall (φ "_law_pairs") (cCons (cVar 1) (cCons (cTup (cCons (cConst (.int 0)) (cCons (cConst (.int 1)) (cNil)))) (cNil))))) (aTup 2 (aCons (aName 4) (aCons (aName 5) (aNil)))) (M.pure true) (cBin hAdd (cVar 4) (cTup (cCons (cTup (cCons (cVar 2) (cCons (cVar 5) (cNil)))) (cNil)))) [4, 5])) (aName 1)) (sNil))) (sSeq (sRet (cLc (iE (cCB hSorted1 (cCons (cLc (iE (cVar 1)) (aName 4) (M.pure true) (cTup (cCons (cCB hLen (cCons (cVar 4) (cNil))) (cCons (cVar 4) (cNil)))) [4]) (cNil)))) (aTup 2 (aCons (aName 3) (aCons (aName 4) (aNil)))) (M.pure true) (cVar 4) [3, 4])) (sNil)))
/-- the end of both: the list in order -/
theorem say_end (n : Nat) (hn : n ≤ 13) (o : Option Dat) : cLc (iE (cCB hSorted1 (cCons (cLc (iE (cVar 1)) (aName 4) (M.pure true) (cTup (cCons (cCB hLen (cCons (cVar 4) (cNil))) (cCons (cVar 4) (cNil)))) [4]) (cNil)))) (aTup 2 (aCons (aName 3) (aCons (aName 4) (aNil)))) (M.pure true) (cVar 4) [3, 4] [some (.int (n : Nat)), some (.list ((SAYS n).map enc)), o, none, none, none] = .ok (.list ((AS n).map enc)) [some (.int (n : Nat)), some (.list ((SAYS n).map enc)), o, none, none, none] := by
  have hl : (SAYS n).length ≤ lineN := by rw [SAYS_len]; exact Nat.le_trans (three_le hn) (by decide)
  have h1 := cLc_map (gi := iE (cVar 1)) (f := aName 4) (e := cTup (cCons (cCB hLen (cCons (cVar 4) (cNil))) (cCons (cVar 4) (cNil)))) (vs := [4]) (ρ := [some (.int (n : Nat)), some (.list ((SAYS n).map enc)), o, none, none, none]) enc (fun s => [some (.int (n : Nat)), some (.list ((SAYS n).map enc)), o, none, some (enc s), none]) (fun s => enc ((s.length : Int), s)) (SAYS n)
    (by simp only [bd_ok, sb_ok, tn_nx, tn_rt, tn_bk, tn_ct, lo_some, slo_some, vr0, vrS, ap_var, ap_const, ap_pure, ap_bin, ap_nil, ap_cons, ap_star, ap_tup, ap_lst, ap_cb, ap_isi, ap_rgl, ap_if, ap_not, tru_t, tru_f, ap_or, ap_and, ap_toB, ap_bNot, ap_bAnd, ap_bOr, ap_bCmp, boolO_some', ap_iE, ap_iR1, ap_iR2, ap_iEn, ap_iZip, ap_pN, ap_pS, ap_sl, call_ok, ap_call, callI_ok, ap_callIo, ap_hole, ls0, lsS, ap_bor', borE_int, borE_bool, ap_borT, borT_ok, ap_move, ap_sNil, ap_sPass, ap_seq, ap_asg, ap_asgs, ap_ret, ap_expr, ap_sIf, ap_for, ap_setIx, ap_mut, optE_some, tup0, tup1, tup2, tup3, lst0, lst1, lst2, lst3, aName, aCons, aNil, aTup2, Option.bind_some, Option.map_some, List.set_cons_zero, List.set_cons_succ, List.cons_append, List.nil_append, if_true, if_false, Bool.false_eq_true, if_pos, reduceIte, drawn_l]) rfl rfl hl (fun _ _ => rfl) (fun s _ => by
      have : hLen [enc s] = some (.int s.length) := by show some (PyData.int ((s.map enc).length : Nat)) = _; rw [List.length_map]
      simp only [bd_ok, sb_ok, tn_nx, tn_rt, tn_bk, tn_ct, lo_some, slo_some, vr0, vrS, ap_var, ap_const, ap_pure, ap_bin, ap_nil, ap_cons, ap_star, ap_tup, ap_lst, ap_cb, ap_isi, ap_rgl, ap_if, ap_not, tru_t, tru_f, ap_or, ap_and, ap_toB, ap_bNot, ap_bAnd, ap_bOr, ap_bCmp, boolO_some', ap_iE, ap_iR1, ap_iR2, ap_iEn, ap_iZip, ap_pN, ap_pS, ap_sl, call_ok, ap_call, callI_ok, ap_callIo, ap_hole, ls0, lsS, ap_bor', borE_int, borE_bool, ap_borT, borT_ok, ap_move, ap_sNil, ap_sPass, ap_seq, ap_asg, ap_asgs, ap_ret, ap_expr, ap_sIf, ap_for, ap_setIx, ap_mut, optE_some, tup0, tup1, tup2, tup3, lst0, lst1, lst2, lst3, aName, aCons, aNil, aTup2, Option.bind_some, Option.map_some, List.set_cons_zero, List.set_cons_succ, List.cons_append, List.nil_append, if_true, if_false, Bool.false_eq_true, if_pos, reduceIte, this]
      rfl) (fun _ _ => rfl)
  have h2 : hSorted1 [.list ((SAYS n).map fun s => enc ((s.length : Int), s))] = some (.list ((sortT (LS1 (SAYS n))).map enc)) := by
    have := hSorted_enc (α := Int × Say) (by decide) (LS1 (SAYS n)) (by rw [List.length_map]; exact hl) (.inr (.inl fun p _ => rfl))
    rw [List.map_map] at this
    exact this
  have h3 := cLc_map (gi := iE (cCB hSorted1 (cCons (cLc (iE (cVar 1)) (aName 4) (M.pure true) (cTup (cCons (cCB hLen (cCons (cVar 4) (cNil))) (cCons (cVar 4) (cNil)))) [4]) (cNil)))) (f := aTup 2 (aCons (aName 3) (aCons (aName 4) (aNil)))) (e := cVar 4) (vs := [3, 4]) (ρ := [some (.int (n : Nat)), some (.list ((SAYS n).map enc)), o, none, none, none]) enc (fun p : Int × Say => [some (.int (n : Nat)), some (.list ((SAYS n).map enc)), o, some (enc p.1), some (enc p.2), none]) (fun p => enc p.2) (sortT (LS1 (SAYS n)))
    (by simp only [bd_ok, sb_ok, tn_nx, tn_rt, tn_bk, tn_ct, lo_some, slo_some, vr0, vrS, ap_var, ap_const, ap_pure, ap_bin, ap_nil, ap_cons, ap_star, ap_tup, ap_lst, ap_cb, ap_isi, ap_rgl, ap_if, ap_not, tru_t, tru_f, ap_or, ap_and, ap_toB, ap_bNot, ap_bAnd, ap_bOr, ap_bCmp, boolO_some', ap_iE, ap_iR1, ap_iR2, ap_iEn, ap_iZip, ap_pN, ap_pS, ap_sl, call_ok, ap_call, callI_ok, ap_callIo, ap_hole, ls0, lsS, ap_bor', borE_int, borE_bool, ap_borT, borT_ok, ap_move, ap_sNil, ap_sPass, ap_seq, ap_asg, ap_asgs, ap_ret, ap_expr, ap_sIf, ap_for, ap_setIx, ap_mut, optE_some, tup0, tup1, tup2, tup3, lst0, lst1, lst2, lst3, aName, aCons, aNil, aTup2, Option.bind_some, Option.map_some, List.set_cons_zero, List.set_cons_succ, List.cons_append, List.nil_append, if_true, if_false, Bool.false_eq_true, if_pos, reduceIte, h1, h2, drawn_l]) rfl rfl (by rw [sortT_len, List.length_map]; exact hl) (fun _ _ => rfl) (fun p _ => by simp only [bd_ok, sb_ok, tn_nx, tn_rt, tn_bk, tn_ct, lo_some, slo_some, vr0, vrS, ap_var, ap_const, ap_pure, ap_bin, ap_nil, ap_cons, ap_star, ap_tup, ap_lst, ap_cb, ap_isi, ap_rgl, ap_if, ap_not, tru_t, tru_f, ap_or, ap_and, ap_toB, ap_bNot, ap_bAnd, ap_bOr, ap_bCmp, boolO_some', ap_iE, ap_iR1, ap_iR2, ap_iEn, ap_iZip, ap_pN, ap_pS, ap_sl, call_ok, ap_call, callI_ok, ap_callIo, ap_hole, ls0, lsS, ap_bor', borE_int, borE_bool, ap_borT, borT_ok, ap_move, ap_sNil, ap_sPass, ap_seq, ap_asg, ap_asgs, ap_ret, ap_expr, ap_sIf, ap_for, ap_setIx, ap_mut, optE_some, tup0, tup1, tup2, tup3, lst0, lst1, lst2, lst3, aName, aCons, aNil, aTup2, Option.bind_some, Option.map_some, List.set_cons_zero, List.set_cons_succ, List.cons_append, List.nil_append, if_true, if_false, Bool.false_eq_true, if_pos, reduceIte]) (fun _ _ => rfl)
  rw [h3]
  unfold AS
  rw [List.map_map]
  rfl
theorem fold_says (n : Nat) : ((List.range n).foldl (fun (s : List Say × Option Dat) (k : Nat) => (nextS (0 + (k : Int)) s.1, some (rgI k))) ([[]], none)).1 = SAYS n := by
  unfold SAYS
  have : ∀ (l : List Nat) (s : List Say) (o : Option Dat), (l.foldl (fun (s : List Say × Option Dat) (k : Nat) => (nextS (0 + (k : Int)) s.1, some (rgI k))) (s, o)).1 = l.foldl (fun ss (q : Nat) => nextS (q : Int) ss) s := by
    intro l
    induction l with
    | nil => intro s o; rfl
    | cons x l ih =>
      intro s o
      rw [List.foldl_cons, List.foldl_cons, ih]
      dsimp only
      rw [Int.zero_add]
  exact this _ _ _
/-- room of the loops -/
def Room3 (xs : List Nat) (s : List Say × Option Dat) : Prop := s.1.length * 3 ^ xs.length ≤ 1594323 ∧ ∀ r ∈ s.1, r.length + xs.length ≤ 13
theorem room3_len {k : Nat} {ks : List Nat} {s : List Say × Option Dat} (q : Room3 (k :: ks) s) : 3 * s.1.length ≤ 1594323 := by
  have q1 := q.1
  rw [List.length_cons, Nat.pow_succ] at q1
  have hpos : 0 < 3 ^ ks.length := Nat.pow_pos (by decide)
  refine Nat.le_trans ?_ q1
  rw [Nat.mul_comm (3 ^ ks.length) 3, ← Nat.mul_assoc, Nat.mul_comm s.1.length 3]
  exact Nat.le_mul_of_pos_right _ hpos
theorem room3_next {k : Nat} {ks : List Nat} {s : List Say × Option Dat} (q : Room3 (k :: ks) s) (j : Int) (o : Option Dat) : Room3 ks (nextS j s.1, o) := by
  obtain ⟨q1, q2⟩ := q
  rw [List.length_cons, Nat.pow_succ] at q1
  refine ⟨?_, fun r hr => ?_⟩
  · show (nextS j s.1).length * 3 ^ ks.length ≤ 1594323
    rw [nextS_len]
    refine Nat.le_trans (Nat.le_of_eq ?_) q1
    rw [Nat.mul_comm (3 ^ ks.length) 3, ← Nat.mul_assoc, Nat.mul_comm 3 s.1.length]
  · have hr : r ∈ nextS j s.1 := hr
    unfold nextS at hr
    rcases List.mem_append.mp hr with hr | hr
    · have := q2 r hr
      rw [List.length_cons] at this
      omega
    · obtain ⟨t, ht, hrt⟩ := List.mem_flatMap.mp hr
      have := q2 t ht
      rw [List.length_cons] at this
      simp only [List.mem_cons, List.not_mem_nil, or_false] at hrt
      rcases hrt with rfl | rfl
      · rw [List.length_append, List.length_singleton]; omega
      · rw [List.length_append, List.length_singleton]; omega
theorem room3_0 {n : Nat} (hn : n ≤ 13) : Room3 (List.range n) ([[]], none) := ⟨by
  show 1 * 3 ^ (List.range n).length ≤ _
  rw [List.length_range, Nat.one_mul]
  exact three_le hn, fun r hr => by
  have : r = [] := by simpa using hr
  rw [this, List.length_range]; simpa using hn⟩
theorem two_len {α β : Type} (f : α → Int → β) (ss : List α) : (ss.flatMap fun s => ([0, 1] : List Int).map fun m => f s m).length = 2 * ss.length := by
  induction ss with
  | nil => rfl
  | cons s ss ih => rw [List.flatMap_cons, List.length_append, ih, List.length_map, List.length_cons, List.length_cons, List.length_cons, List.length_nil]; omega
theorem every_ok {φ : Str → FnSem} (n : Nat) (hn : n ≤ 13) : runG ⟨1, none, false⟩ 6 (b_every φ) [.int (n : Nat)] = .ok (.list ((AS n).map enc)) .none := by
  have loop := forL_meas (τ := List Say × Option Dat) (f := aName 2) (b := sSeq (sAsg (cBin hAdd (cVar 1) (cLc2 (iE (cVar 1)) (aName 4) (M.pure true) (cIn (iE (cConst (.tuple [.int 0, .int 1]))) (aName 5) (M.pure true) (cTup (cStar (cVar 4) (cCons (cTup (cCons (cVar 2) (cCons (cVar 5) (cNil)))) (cNil)))) [5]) [4, 5])) (aName 1)) (sNil)) rgI
    (fun s => [some (.int (n : Nat)), some (.list (s.1.map enc)), s.2, none, none, none]) (fun s k => (nextS (0 + (k : Int)) s.1, some (rgI k))) Room3 (fun k ks s q => by
      obtain ⟨ss, o⟩ := s
      have q3 := room3_len q
      dsimp only at q3
      refine ⟨⟨_, rfl, ?_⟩, room3_next q _ _⟩
      have hin : ∀ s ∈ ss, cIn (iE (cConst (.tuple [.int 0, .int 1]))) (aName 5) (M.pure true) (cTup (cStar (cVar 4) (cCons (cTup (cCons (cVar 2) (cCons (cVar 5) (cNil)))) (cNil)))) [5] [some (.int (n : Nat)), some (.list (ss.map enc)), some (rgI k), none, some (enc s), none] = .ok (([0, 1] : List Int).map fun m => enc (s ++ [((0 + (k : Int)), m)])) [some (.int (n : Nat)), some (.list (ss.map enc)), some (rgI k), none, some (enc s), none] := fun s hs =>
        cIn_ok PyData.int (fun m => [some (.int (n : Nat)), some (.list (ss.map enc)), some (rgI k), none, some (enc s), some (.int m)]) (fun m => enc (s ++ [((0 + (k : Int)), m)])) [0, 1] (by simp only [bd_ok, sb_ok, tn_nx, tn_rt, tn_bk, tn_ct, lo_some, slo_some, vr0, vrS, ap_var, ap_const, ap_pure, ap_bin, ap_nil, ap_cons, ap_star, ap_tup, ap_lst, ap_cb, ap_isi, ap_rgl, ap_if, ap_not, tru_t, tru_f, ap_or, ap_and, ap_toB, ap_bNot, ap_bAnd, ap_bOr, ap_bCmp, boolO_some', ap_iE, ap_iR1, ap_iR2, ap_iEn, ap_iZip, ap_pN, ap_pS, ap_sl, call_ok, ap_call, callI_ok, ap_callIo, ap_hole, ls0, lsS, ap_bor', borE_int, borE_bool, ap_borT, borT_ok, ap_move, ap_sNil, ap_sPass, ap_seq, ap_asg, ap_asgs, ap_ret, ap_expr, ap_sIf, ap_for, ap_setIx, ap_mut, optE_some, tup0, tup1, tup2, tup3, lst0, lst1, lst2, lst3, aName, aCons, aNil, aTup2, Option.bind_some, Option.map_some, List.set_cons_zero, List.set_cons_succ, List.cons_append, List.nil_append, if_true, if_false, Bool.false_eq_true, if_pos, reduceIte, drawn_t]; rfl) rfl (fun _ _ => rfl) (fun m _ => by
          have hm : s.length + 1 ≤ lineN := by
            have := q.2 s hs
            refine Nat.le_trans ?_ (show 14 ≤ lineN by decide)
            omega
          have e1 : itemsOf (enc s) = some (s.map enc) := rfl
          have e2 : s.map enc ++ [PyData.tuple [rgI k, .int m]] = (s ++ [((0 + (k : Int)), m)]).map enc := by rw [List.map_append]; rfl
          simp only [bd_ok, sb_ok, tn_nx, tn_rt, tn_bk, tn_ct, lo_some, slo_some, vr0, vrS, ap_var, ap_const, ap_pure, ap_bin, ap_nil, ap_cons, ap_star, ap_tup, ap_lst, ap_cb, ap_isi, ap_rgl, ap_if, ap_not, tru_t, tru_f, ap_or, ap_and, ap_toB, ap_bNot, ap_bAnd, ap_bOr, ap_bCmp, boolO_some', ap_iE, ap_iR1, ap_iR2, ap_iEn, ap_iZip, ap_pN, ap_pS, ap_sl, call_ok, ap_call, callI_ok, ap_callIo, ap_hole, ls0, lsS, ap_bor', borE_int, borE_bool, ap_borT, borT_ok, ap_move, ap_sNil, ap_sPass, ap_seq, ap_asg, ap_asgs, ap_ret, ap_expr, ap_sIf, ap_for, ap_setIx, ap_mut, optE_some, tup0, tup1, tup2, tup3, lst0, lst1, lst2, lst3, aName, aCons, aNil, aTup2, Option.bind_some, Option.map_some, List.set_cons_zero, List.set_cons_succ, List.cons_append, List.nil_append, if_true, if_false, Bool.false_eq_true, if_pos, reduceIte, e1, e2]
          rw [tupOf_ok (by rw [List.length_map, List.length_append]; exact hm)]
          rfl) (fun _ _ => rfl)
      have hc := cLc2_ok (gi := iE (cVar 1)) (f := aName 4) (inner := cIn (iE (cConst (.tuple [.int 0, .int 1]))) (aName 5) (M.pure true) (cTup (cStar (cVar 4) (cCons (cTup (cCons (cVar 2) (cCons (cVar 5) (cNil)))) (cNil)))) [5]) (vs := [4, 5]) (ρ := [some (.int (n : Nat)), some (.list (ss.map enc)), some (rgI k), none, none, none]) enc (fun s => [some (.int (n : Nat)), some (.list (ss.map enc)), some (rgI k), none, some (enc s), none]) (fun s => [some (.int (n : Nat)), some (.list (ss.map enc)), some (rgI k), none, some (enc s), none]) (fun s => ([0, 1] : List Int).map fun m => enc (s ++ [((0 + (k : Int)), m)])) ss
        (by simp only [bd_ok, sb_ok, tn_nx, tn_rt, tn_bk, tn_ct, lo_some, slo_some, vr0, vrS, ap_var, ap_const, ap_pure, ap_bin, ap_nil, ap_cons, ap_star, ap_tup, ap_lst, ap_cb, ap_isi, ap_rgl, ap_if, ap_not, tru_t, tru_f, ap_or, ap_and, ap_toB, ap_bNot, ap_bAnd, ap_bOr, ap_bCmp, boolO_some', ap_iE, ap_iR1, ap_iR2, ap_iEn, ap_iZip, ap_pN, ap_pS, ap_sl, call_ok, ap_call, callI_ok, ap_callIo, ap_hole, ls0, lsS, ap_bor', borE_int, borE_bool, ap_borT, borT_ok, ap_move, ap_sNil, ap_sPass, ap_seq, ap_asg, ap_asgs, ap_ret, ap_expr, ap_sIf, ap_for, ap_setIx, ap_mut, optE_some, tup0, tup1, tup2, tup3, lst0, lst1, lst2, lst3, aName, aCons, aNil, aTup2, Option.bind_some, Option.map_some, List.set_cons_zero, List.set_cons_succ, List.cons_append, List.nil_append, if_true, if_false, Bool.false_eq_true, if_pos, reduceIte, drawn_l]) rfl rfl (by
          rw [two_len]
          exact Nat.le_trans (show 2 * ss.length ≤ 1594323 by omega) (by decide)) (fun _ _ => rfl) hin (fun _ _ => rfl)
      have hfl : (ss.flatMap fun s => ([0, 1] : List Int).map fun m => enc (s ++ [((0 + (k : Int)), m)])) = (ss.flatMap fun s => [s ++ [((0 + (k : Int)), 0)], s ++ [((0 + (k : Int)), 1)]]).map enc := by
        rw [List.map_flatMap]
        rfl
      rw [hfl] at hc
      have ha := add_lst (f := enc (α := Say)) (xs := ss) (ys := ss.flatMap fun s => [s ++ [((0 + (k : Int)), 0)], s ++ [((0 + (k : Int)), 1)]]) (by
        rw [ext_len]
        exact Nat.le_trans (show ss.length + 2 * ss.length ≤ 1594323 by omega) (by decide))
      simp only [bd_ok, sb_ok, tn_nx, tn_rt, tn_bk, tn_ct, lo_some, slo_some, vr0, vrS, ap_var, ap_const, ap_pure, ap_bin, ap_nil, ap_cons, ap_star, ap_tup, ap_lst, ap_cb, ap_isi, ap_rgl, ap_if, ap_not, tru_t, tru_f, ap_or, ap_and, ap_toB, ap_bNot, ap_bAnd, ap_bOr, ap_bCmp, boolO_some', ap_iE, ap_iR1, ap_iR2, ap_iEn, ap_iZip, ap_pN, ap_pS, ap_sl, call_ok, ap_call, callI_ok, ap_callIo, ap_hole, ls0, lsS, ap_bor', borE_int, borE_bool, ap_borT, borT_ok, ap_move, ap_sNil, ap_sPass, ap_seq, ap_asg, ap_asgs, ap_ret, ap_expr, ap_sIf, ap_for, ap_setIx, ap_mut, optE_some, tup0, tup1, tup2, tup3, lst0, lst1, lst2, lst3, aName, aCons, aNil, aTup2, Option.bind_some, Option.map_some, List.set_cons_zero, List.set_cons_succ, List.cons_append, List.nil_append, if_true, if_false, Bool.false_eq_true, if_pos, reduceIte, hc, ha]
      rfl) (List.range n) ([[]], none) (room3_0 hn)
  have fold := fold_says n
  obtain ⟨s, hs⟩ : ∃ s, s = (List.range n).foldl (fun (s : List Say × Option Dat) (k : Nat) => (nextS (0 + (k : Int)) s.1, some (rgI k))) ([[]], none) := ⟨_, rfl⟩
  rw [← hs] at loop fold
  refine runG_rt (ρ := [some (.int (n : Nat)), some (.list ((SAYS n).map enc)), s.2, none, none, none]) rfl ?_
  show b_every φ [some (.int (n : Nat)), none, none, none, none, none] = _
  unfold b_every
  rw [fold] at loop
  have e0 : [some (PyData.int (n : Nat)), some (PyData.list (([[]] : List Say).map enc)), none, none, none, none] = [some (PyData.int (n : Nat)), some (PyData.list [.tuple []]), none, none, none, none] := rfl
  dsimp only at loop
  rw [e0] at loop
  simp only [bd_ok, sb_ok, tn_nx, tn_rt, tn_bk, tn_ct, lo_some, slo_some, vr0, vrS, ap_var, ap_const, ap_pure, ap_bin, ap_nil, ap_cons, ap_star, ap_tup, ap_lst, ap_cb, ap_isi, ap_rgl, ap_if, ap_not, tru_t, tru_f, ap_or, ap_and, ap_toB, ap_bNot, ap_bAnd, ap_bOr, ap_bCmp, boolO_some', ap_iE, ap_iR1, ap_iR2, ap_iEn, ap_iZip, ap_pN, ap_pS, ap_sl, call_ok, ap_call, callI_ok, ap_callIo, ap_hole, ls0, lsS, ap_bor', borE_int, borE_bool, ap_borT, borT_ok, ap_move, ap_sNil, ap_sPass, ap_seq, ap_asg, ap_asgs, ap_ret, ap_expr, ap_sIf, ap_for, ap_setIx, ap_mut, optE_some, tup0, tup1, tup2, tup3, lst0, lst1, lst2, lst3, aName, aCons, aNil, aTup2, Option.bind_some, Option.map_some, List.set_cons_zero, List.set_cons_succ, List.cons_append, List.nil_append, if_true, if_false, Bool.false_eq_true, if_pos, reduceIte, rg1_nat (Nat.le_trans hn (by decide)), loop, say_end n hn]
theorem allsay_ok {φ ψ : Str → FnSem} (hp : φ "_law_pairs" = runG ⟨2, none, false⟩ 5 (b_pairs ψ)) (n : Nat) (hn : n ≤ 13) : runG ⟨1, none, false⟩ 6 (b_allsay φ) [.int (n : Nat)] = .ok (.list ((AS n).map enc)) .none := by
  have loop := forL_meas (τ := List Say × Option Dat) (f := aName 2) (b := sSeq (sAsg (cBin hAdd (cVar 1) (cLc (iE (cCall (φ "_law_pairs") (cCons (cVar 1) (cCons (cTup (cCons (cConst (.int 0)) (cCons (cConst (.int 1)) (cNil)))) (cNil))))) (aTup 2 (aCons (aName 4) (aCons (aName 5) (aNil)))) (M.pure true) (cBin hAdd (cVar 4) (cTup (cCons (cTup (cCons (cVar 2) (cCons (cVar 5) (cNil)))) (cNil)))) [4, 5])) (aName 1)) (sNil)) rgI
    (fun s => [some (.int (n : Nat)), some (.list (s.1.map enc)), s.2, none, none, none]) (fun s k => (nextS (0 + (k : Int)) s.1, some (rgI k))) Room3 (fun k ks s q => by
      obtain ⟨ss, o⟩ := s
      have q3 := room3_len q
      dsimp only at q3
      refine ⟨⟨_, rfl, ?_⟩, room3_next q _ _⟩
      have q4 : ss.length * 2 ≤ lineN := Nat.le_trans (show ss.length * 2 ≤ 1594323 by omega) (by decide)
      have hc := cLc_map (gi := iE (cCall (φ "_law_pairs") (cCons (cVar 1) (cCons (cTup (cCons (cConst (.int 0)) (cCons (cConst (.int 1)) (cNil)))) (cNil))))) (f := aTup 2 (aCons (aName 4) (aCons (aName 5) (aNil)))) (e := cBin hAdd (cVar 4) (cTup (cCons (cTup (cCons (cVar 2) (cCons (cVar 5) (cNil)))) (cNil)))) (vs := [4, 5]) (ρ := [some (.int (n : Nat)), some (.list (ss.map enc)), some (rgI k), none, none, none]) (fun p => .tuple [enc p.1, .int p.2]) (fun p => [some (.int (n : Nat)), some (.list (ss.map enc)), some (rgI k), none, some (enc p.1), some (.int p.2)]) (fun p => enc (p.1 ++ [((0 + (k : Int)), p.2)])) (prs ss)
        (by simp only [bd_ok, sb_ok, tn_nx, tn_rt, tn_bk, tn_ct, lo_some, slo_some, vr0, vrS, ap_var, ap_const, ap_pure, ap_bin, ap_nil, ap_cons, ap_star, ap_tup, ap_lst, ap_cb, ap_isi, ap_rgl, ap_if, ap_not, tru_t, tru_f, ap_or, ap_and, ap_toB, ap_bNot, ap_bAnd, ap_bOr, ap_bCmp, boolO_some', ap_iE, ap_iR1, ap_iR2, ap_iEn, ap_iZip, ap_pN, ap_pS, ap_sl, call_ok, ap_call, callI_ok, ap_callIo, ap_hole, ls0, lsS, ap_bor', borE_int, borE_bool, ap_borT, borT_ok, ap_move, ap_sNil, ap_sPass, ap_seq, ap_asg, ap_asgs, ap_ret, ap_expr, ap_sIf, ap_for, ap_setIx, ap_mut, optE_some, tup0, tup1, tup2, tup3, lst0, lst1, lst2, lst3, aName, aCons, aNil, aTup2, Option.bind_some, Option.map_some, List.set_cons_zero, List.set_cons_succ, List.cons_append, List.nil_append, if_true, if_false, Bool.false_eq_true, if_pos, reduceIte, pairs01 hp enc ss q4, drawn_l]) rfl rfl (by rw [prs_len]; omega) (fun _ _ => rfl) (fun p m => by
          have hm : p.1.length + 1 ≤ lineN := by
            obtain ⟨t, ht, hpt⟩ := List.mem_flatMap.mp m
            have := q.2 t ht
            simp only [List.mem_cons, List.not_mem_nil, or_false] at hpt
            have e : p.1 = t := by rcases hpt with rfl | rfl <;> rfl
            rw [e]
            refine Nat.le_trans ?_ (show 14 ≤ lineN by decide)
            omega
          have ha : hAdd (enc p.1) (.tuple [.tuple [rgI k, .int p.2]]) = some (enc (p.1 ++ [((0 + (k : Int)), p.2)])) := add_enc (ys := [((0 + (k : Int)), p.2)]) hm
          simp only [bd_ok, sb_ok, tn_nx, tn_rt, tn_bk, tn_ct, lo_some, slo_some, vr0, vrS, ap_var, ap_const, ap_pure, ap_bin, ap_nil, ap_cons, ap_star, ap_tup, ap_lst, ap_cb, ap_isi, ap_rgl, ap_if, ap_not, tru_t, tru_f, ap_or, ap_and, ap_toB, ap_bNot, ap_bAnd, ap_bOr, ap_bCmp, boolO_some', ap_iE, ap_iR1, ap_iR2, ap_iEn, ap_iZip, ap_pN, ap_pS, ap_sl, call_ok, ap_call, callI_ok, ap_callIo, ap_hole, ls0, lsS, ap_bor', borE_int, borE_bool, ap_borT, borT_ok, ap_move, ap_sNil, ap_sPass, ap_seq, ap_asg, ap_asgs, ap_ret, ap_expr, ap_sIf, ap_for, ap_setIx, ap_mut, optE_some, tup0, tup1, tup2, tup3, lst0, lst1, lst2, lst3, aName, aCons, aNil, aTup2, Option.bind_some, Option.map_some, List.set_cons_zero, List.set_cons_succ, List.cons_append, List.nil_append, if_true, if_false, Bool.false_eq_true, if_pos, reduceIte, ha]) (fun _ _ => rfl)
      have hfl : ((prs ss).map fun p => enc (p.1 ++ [((0 + (k : Int)), p.2)])) = (ss.flatMap fun s => [s ++ [((0 + (k : Int)), 0)], s ++ [((0 + (k : Int)), 1)]]).map enc := by
        unfold prs
        rw [List.map_flatMap, List.map_flatMap]
        rfl
      rw [hfl] at hc
      have ha := add_lst (f := enc (α := Say)) (xs := ss) (ys := ss.flatMap fun s => [s ++ [((0 + (k : Int)), 0)], s ++ [((0 + (k : Int)), 1)]]) (by
        rw [ext_len]
        exact Nat.le_trans (show ss.length + 2 * ss.length ≤ 1594323 by omega) (by decide))
      simp only [bd_ok, sb_ok, tn_nx, tn_rt, tn_bk, tn_ct, lo_some, slo_some, vr0, vrS, ap_var, ap_const, ap_pure, ap_bin, ap_nil, ap_cons, ap_star, ap_tup, ap_lst, ap_cb, ap_isi, ap_rgl, ap_if, ap_not, tru_t, tru_f, ap_or, ap_and, ap_toB, ap_bNot, ap_bAnd, ap_bOr, ap_bCmp, boolO_some', ap_iE, ap_iR1, ap_iR2, ap_iEn, ap_iZip, ap_pN, ap_pS, ap_sl, call_ok, ap_call, callI_ok, ap_callIo, ap_hole, ls0, lsS, ap_bor', borE_int, borE_bool, ap_borT, borT_ok, ap_move, ap_sNil, ap_sPass, ap_seq, ap_asg, ap_asgs, ap_ret, ap_expr, ap_sIf, ap_for, ap_setIx, ap_mut, optE_some, tup0, tup1, tup2, tup3, lst0, lst1, lst2, lst3, aName, aCons, aNil, aTup2, Option.bind_some, Option.map_some, List.set_cons_zero, List.set_cons_succ, List.cons_append, List.nil_append, if_true, if_false, Bool.false_eq_true, if_pos, reduceIte, hc, ha]
      rfl) (List.range n) ([[]], none) (room3_0 hn)
  have fold := fold_says n
  obtain ⟨s, hs⟩ : ∃ s, s = (List.range n).foldl (fun (s : List Say × Option Dat) (k : Nat) => (nextS (0 + (k : Int)) s.1, some (rgI k))) ([[]], none) := ⟨_, rfl⟩
  rw [← hs] at loop fold
  refine runG_rt (ρ := [some (.int (n : Nat)), some (.list ((SAYS n).map enc)), s.2, none, none, none]) rfl ?_
  show b_allsay φ [some (.int (n : Nat)), none, none, none, none, none] = _
  unfold b_allsay
  rw [fold] at loop
  have e0 : [some (PyData.int (n : Nat)), some (PyData.list (([[]] : List Say).map enc)), none, none, none, none] = [some (PyData.int (n : Nat)), some (PyData.list [.tuple []]), none, none, none, none] := rfl
  dsimp only at loop
  rw [e0] at loop
  simp only [bd_ok, sb_ok, tn_nx, tn_rt, tn_bk, tn_ct, lo_some, slo_some, vr0, vrS, ap_var, ap_const, ap_pure, ap_bin, ap_nil, ap_cons, ap_star, ap_tup, ap_lst, ap_cb, ap_isi, ap_rgl, ap_if, ap_not, tru_t, tru_f, ap_or, ap_and, ap_toB, ap_bNot, ap_bAnd, ap_bOr, ap_bCmp, boolO_some', ap_iE, ap_iR1, ap_iR2, ap_iEn, ap_iZip, ap_pN, ap_pS, ap_sl, call_ok, ap_call, callI_ok, ap_callIo, ap_hole, ls0, lsS, ap_bor', borE_int, borE_bool, ap_borT, borT_ok, ap_move, ap_sNil, ap_sPass, ap_seq, ap_asg, ap_asgs, ap_ret, ap_expr, ap_sIf, ap_for, ap_setIx, ap_mut, optE_some, tup0, tup1, tup2, tup3, lst0, lst1, lst2, lst3, aName, aCons, aNil, aTup2, Option.bind_some, Option.map_some, List.set_cons_zero, List.set_cons_succ, List.cons_append, List.nil_append, if_true, if_false, Bool.false_eq_true, if_pos, reduceIte, rg1_nat (Nat.le_trans hn (by decide)), loop, say_end n hn]
end L2.PV
set_option Elab.async false
set_option linter.all false
set_option maxRecDepth 100000
set_option maxHeartbeats 4000000
namespace L2.PV
open PySem PySem.Spec PyProof.Rows
open Enc (enc)
def part (s t : Say) : Bool := s.all fun a => decide (a ∈ t)
def barsT (s : Say) (r : List Int) : Bool := s.all fun a => decide (r.getD a.1.toNat 0 = a.2)
theorem dec_eq {p : Prop} (i j : Decidable p) : @decide p i = @decide p j := by cases Subsingleton.elim i j; rfl
theorem in_say (a : Int × Int) (t : Say) : hIn (enc a) (enc t) = some (.bool (decide (a ∈ t))) := (hIn_tup (by decide) a t).trans (congrArg (fun b => some (PyData.bool b)) (dec_eq _ _))
theorem notIn_say (a : Int × Int) (t : Say) : hNotIn (enc a) (enc t) = some (.bool (!decide (a ∈ t))) := (hNotIn_tup (by decide) a t).trans (congrArg (fun b => some (PyData.bool (!b))) (dec_eq _ _))
theorem ix_row {r : List Int} {q : Int} (h0 : 0 ≤ q) (h1 : q < r.length) : hIx (enc r) (.int q) = some (.int (r.getD q.toNat 0)) := by
  have hl : q.toNat < r.length := by omega
  refine ix_tup h0 ?_
  rw [List.getElem?_map, List.getElem?_eq_getElem hl, List.getD_eq_getElem?_getD, List.getElem?_eq_getElem hl]
  rfl
theorem enc_ans (a : Int × Int) : (enc a : Dat) = .tuple [.int a.1, .int a.2] := Eq.trans rfl rfl
def b_ispart (φ : Str → FnSem) : MS := sSeq (sRet (cCB hAll (cCons (cLc (iE (cVar 0)) (aName 2) (M.pure true) (cBin hIn (cVar 2) (cVar 1)) [2]) (cNil)))) (sNil)
theorem ispart_ok {φ : Str → FnSem} (s t : Say) (hs : s.length ≤ lineN) : runG ⟨2, none, false⟩ 3 (b_ispart φ) [enc s, enc t] = .ok (.bool (part s t)) .none := by
  refine runG_rt (ρ := [some (enc s), some (enc t), none]) rfl ?_
  show b_ispart φ [some (enc s), some (enc t), none] = _
  unfold b_ispart
  have hc := cLc_map (gi := iE (cVar 0)) (f := aName 2) (e := cBin hIn (cVar 2) (cVar 1)) (vs := [2]) (ρ := [some (enc s), some (enc t), none]) enc (fun a => [some (enc s), some (enc t), some (enc a)]) (fun a => .bool (decide (a ∈ t))) s
    (by have : drawn (enc s) = some (s.map enc) := rfl
        simp only [bd_ok, sb_ok, tn_nx, tn_rt, tn_bk, tn_ct, lo_some, slo_some, vr0, vrS, ap_var, ap_const, ap_pure, ap_bin, ap_nil, ap_cons, ap_star, ap_tup, ap_lst, ap_cb, ap_isi, ap_rgl, ap_if, ap_not, tru_t, tru_f, ap_or, ap_and, ap_toB, ap_bNot, ap_bAnd, ap_bOr, ap_bCmp, boolO_some', ap_iE, ap_iR1, ap_iR2, ap_iEn, ap_iZip, ap_pN, ap_pS, ap_sl, call_ok, ap_call, callI_ok, ap_callIo, ap_hole, ls0, lsS, ap_bor', borE_int, borE_bool, ap_borT, borT_ok, ap_move, ap_sNil, ap_sPass, ap_seq, ap_asg, ap_asgs, ap_ret, ap_expr, ap_sIf, ap_for, ap_setIx, ap_mut, optE_some, tup0, tup1, tup2, tup3, lst0, lst1, lst2, lst3, aName, aCons, aNil, aTup2, Option.bind_some, Option.map_some, List.set_cons_zero, List.set_cons_succ, List.cons_append, List.nil_append, if_true, if_false, Bool.false_eq_true, if_pos, reduceIte, this]) rfl rfl hs (fun _ _ => rfl) (fun a _ => by
      have := in_say a t
      simp only [bd_ok, sb_ok, tn_nx, tn_rt, tn_bk, tn_ct, lo_some, slo_some, vr0, vrS, ap_var, ap_const, ap_pure, ap_bin, ap_nil, ap_cons, ap_star, ap_tup, ap_lst, ap_cb, ap_isi, ap_rgl, ap_if, ap_not, tru_t, tru_f, ap_or, ap_and, ap_toB, ap_bNot, ap_bAnd, ap_bOr, ap_bCmp, boolO_some', ap_iE, ap_iR1, ap_iR2, ap_iEn, ap_iZip, ap_pN, ap_pS, ap_sl, call_ok, ap_call, callI_ok, ap_callIo, ap_hole, ls0, lsS, ap_bor', borE_int, borE_bool, ap_borT, borT_ok, ap_move, ap_sNil, ap_sPass, ap_seq, ap_asg, ap_asgs, ap_ret, ap_expr, ap_sIf, ap_for, ap_setIx, ap_mut, optE_some, tup0, tup1, tup2, tup3, lst0, lst1, lst2, lst3, aName, aCons, aNil, aTup2, Option.bind_some, Option.map_some, List.set_cons_zero, List.set_cons_succ, List.cons_append, List.nil_append, if_true, if_false, Bool.false_eq_true, if_pos, reduceIte, this]) (fun _ _ => rfl)
  simp only [bd_ok, sb_ok, tn_nx, tn_rt, tn_bk, tn_ct, lo_some, slo_some, vr0, vrS, ap_var, ap_const, ap_pure, ap_bin, ap_nil, ap_cons, ap_star, ap_tup, ap_lst, ap_cb, ap_isi, ap_rgl, ap_if, ap_not, tru_t, tru_f, ap_or, ap_and, ap_toB, ap_bNot, ap_bAnd, ap_bOr, ap_bCmp, boolO_some', ap_iE, ap_iR1, ap_iR2, ap_iEn, ap_iZip, ap_pN, ap_pS, ap_sl, call_ok, ap_call, callI_ok, ap_callIo, ap_hole, ls0, lsS, ap_bor', borE_int, borE_bool, ap_borT, borT_ok, ap_move, ap_sNil, ap_sPass, ap_seq, ap_asg, ap_asgs, ap_ret, ap_expr, ap_sIf, ap_for, ap_setIx, ap_mut, optE_some, tup0, tup1, tup2, tup3, lst0, lst1, lst2, lst3, aName, aCons, aNil, aTup2, Option.bind_some, Option.map_some, List.set_cons_zero, List.set_cons_succ, List.cons_append, List.nil_append, if_true, if_false, Bool.false_eq_true, if_pos, reduceIte, hc, all_map]
  rfl
def b_bars (φ : Str → FnSem) : MS := sSeq (sRet (cCB hAll (cCons (cLc (iE (cVar 0)) (aTup 2 (aCons (aName 2) (aCons (aName 3) (aNil)))) (M.pure true) (cBin hEq (cBin hIx (cVar 1) (cVar 2)) (cVar 3)) [2, 3]) (cNil)))) (sNil)
theorem bars_ok {φ : Str → FnSem} {n : Nat} (s : Say) (r : List Int) (hs : s.length ≤ lineN) (h : ∀ a ∈ s, 0 ≤ a.1 ∧ a.1 < n) (hr : r.length = n) : runG ⟨2, none, false⟩ 4 (b_bars φ) [enc s, enc r] = .ok (.bool (barsT s r)) .none := by
  refine runG_rt (ρ := [some (enc s), some (enc r), none, none]) rfl ?_
  show b_bars φ [some (enc s), some (enc r), none, none] = _
  unfold b_bars
  have hc := cLc_map (gi := iE (cVar 0)) (f := aTup 2 (aCons (aName 2) (aCons (aName 3) (aNil)))) (e := cBin hEq (cBin hIx (cVar 1) (cVar 2)) (cVar 3)) (vs := [2, 3]) (ρ := [some (enc s), some (enc r), none, none]) enc (fun a : Int × Int => [some (enc s), some (enc r), some (.int a.1), some (.int a.2)]) (fun a => .bool (decide (r.getD a.1.toNat 0 = a.2))) s
    (by have : drawn (enc s) = some (s.map enc) := rfl
        simp only [bd_ok, sb_ok, tn_nx, tn_rt, tn_bk, tn_ct, lo_some, slo_some, vr0, vrS, ap_var, ap_const, ap_pure, ap_bin, ap_nil, ap_cons, ap_star, ap_tup, ap_lst, ap_cb, ap_isi, ap_rgl, ap_if, ap_not, tru_t, tru_f, ap_or, ap_and, ap_toB, ap_bNot, ap_bAnd, ap_bOr, ap_bCmp, boolO_some', ap_iE, ap_iR1, ap_iR2, ap_iEn, ap_iZip, ap_pN, ap_pS, ap_sl, call_ok, ap_call, callI_ok, ap_callIo, ap_hole, ls0, lsS, ap_bor', borE_int, borE_bool, ap_borT, borT_ok, ap_move, ap_sNil, ap_sPass, ap_seq, ap_asg, ap_asgs, ap_ret, ap_expr, ap_sIf, ap_for, ap_setIx, ap_mut, optE_some, tup0, tup1, tup2, tup3, lst0, lst1, lst2, lst3, aName, aCons, aNil, aTup2, Option.bind_some, Option.map_some, List.set_cons_zero, List.set_cons_succ, List.cons_append, List.nil_append, if_true, if_false, Bool.false_eq_true, if_pos, reduceIte, this]) rfl rfl hs (fun _ _ => rfl) (fun a m => by
      have := ix_row (r := r) (h a m).1 (by rw [hr]; exact (h a m).2)
      simp only [bd_ok, sb_ok, tn_nx, tn_rt, tn_bk, tn_ct, lo_some, slo_some, vr0, vrS, ap_var, ap_const, ap_pure, ap_bin, ap_nil, ap_cons, ap_star, ap_tup, ap_lst, ap_cb, ap_isi, ap_rgl, ap_if, ap_not, tru_t, tru_f, ap_or, ap_and, ap_toB, ap_bNot, ap_bAnd, ap_bOr, ap_bCmp, boolO_some', ap_iE, ap_iR1, ap_iR2, ap_iEn, ap_iZip, ap_pN, ap_pS, ap_sl, call_ok, ap_call, callI_ok, ap_callIo, ap_hole, ls0, lsS, ap_bor', borE_int, borE_bool, ap_borT, borT_ok, ap_move, ap_sNil, ap_sPass, ap_seq, ap_asg, ap_asgs, ap_ret, ap_expr, ap_sIf, ap_for, ap_setIx, ap_mut, optE_some, tup0, tup1, tup2, tup3, lst0, lst1, lst2, lst3, aName, aCons, aNil, aTup2, Option.bind_some, Option.map_some, List.set_cons_zero, List.set_cons_succ, List.cons_append, List.nil_append, if_true, if_false, Bool.false_eq_true, if_pos, reduceIte, this, eq_ii]) (fun _ _ => rfl)
  simp only [bd_ok, sb_ok, tn_nx, tn_rt, tn_bk, tn_ct, lo_some, slo_some, vr0, vrS, ap_var, ap_const, ap_pure, ap_bin, ap_nil, ap_cons, ap_star, ap_tup, ap_lst, ap_cb, ap_isi, ap_rgl, ap_if, ap_not, tru_t, tru_f, ap_or, ap_and, ap_toB, ap_bNot, ap_bAnd, ap_bOr, ap_bCmp, boolO_some', ap_iE, ap_iR1, ap_iR2, ap_iEn, ap_iZip, ap_pN, ap_pS, ap_sl, call_ok, ap_call, callI_ok, ap_callIo, ap_hole, ls0, lsS, ap_bor', borE_int, borE_bool, ap_borT, borT_ok, ap_move, ap_sNil, ap_sPass, ap_seq, ap_asg, ap_asgs, ap_ret, ap_expr, ap_sIf, ap_for, ap_setIx, ap_mut, optE_some, tup0, tup1, tup2, tup3, lst0, lst1, lst2, lst3, aName, aCons, aNil, aTup2, Option.bind_some, Option.map_some, List.set_cons_zero, List.set_cons_succ, List.cons_append, List.nil_append, if_true, if_false, Bool.false_eq_true, if_pos, reduceIte, hc, all_map]
  rfl
def b_lbars (φ : Str → FnSem) : MS := sSeq (sRet (cBin hEq (cLc (iE (cVar 0)) (aTup 2 (aCons (aName 2) (aCons (aName 3) (aNil)))) (bCmp hNe (cBin hIx (cVar 1) (cVar 2)) (cVar 3)) (cConst (.int 1)) [2, 3]) (cLst (cNil)))) (sNil)
theorem filter_nil_all {α : Type} (p : α → Bool) (xs : List α) : decide (xs.filter (fun a => !p a) = []) = xs.all p := by
  rw [Bool.eq_iff_iff, decide_eq_true_eq, List.all_eq_true, List.filter_eq_nil_iff]
  constructor
  · intro h a ha
    have := h a ha
    simpa using this
  · intro h a ha
    rw [h a ha]
    simp
theorem filter_nil_any {α : Type} [DecidableEq α] (p : α → Bool) (xs : List α) : decide (xs.filter p = []) = !xs.any p := by
  rw [Bool.eq_iff_iff, decide_eq_true_eq, List.filter_eq_nil_iff, Bool.not_eq_true', List.any_eq_false]
theorem eq_nil_ones {α : Type} (xs : List α) : hEq (.list (xs.map fun _ => PyData.int 1)) (.list []) = some (.bool xs.isEmpty) := by
  have := hEq_nil (α := Int) (by decide) (xs.map fun _ => 1)
  rw [List.map_map] at this
  have e : (xs.map (enc ∘ fun _ => (1 : Int))) = xs.map fun _ => PyData.int 1 := rfl
  rw [e] at this
  rw [this]
  cases xs <;> rfl
theorem isEmpty_filter {α : Type} (p : α → Bool) (xs : List α) : (xs.filter fun a => !p a).isEmpty = xs.all p := by
  induction xs with
  | nil => rfl
  | cons a xs ih =>
    rw [List.filter_cons, List.all_cons]
    cases h : p a with
    | true => simp [ih]
    | false => simp
theorem lbars_ok {φ : Str → FnSem} {n : Nat} (s : Say) (r : List Int) (hs : s.length ≤ lineN) (h : ∀ a ∈ s, 0 ≤ a.1 ∧ a.1 < n) (hr : r.length = n) : runG ⟨2, none, false⟩ 4 (b_lbars φ) [enc s, enc r] = .ok (.bool (barsT s r)) .none := by
  refine runG_rt (ρ := [some (enc s), some (enc r), none, none]) rfl ?_
  show b_lbars φ [some (enc s), some (enc r), none, none] = _
  unfold b_lbars
  have hc := cLc_ok (gi := iE (cVar 0)) (f := aTup 2 (aCons (aName 2) (aCons (aName 3) (aNil)))) (t := bCmp hNe (cBin hIx (cVar 1) (cVar 2)) (cVar 3)) (e := cConst (.int 1)) (vs := [2, 3]) (ρ := [some (enc s), some (enc r), none, none]) enc (fun a : Int × Int => [some (enc s), some (enc r), some (.int a.1), some (.int a.2)]) (fun a => !decide (r.getD a.1.toNat 0 = a.2)) (fun _ => .int 1) s
    (by have : drawn (enc s) = some (s.map enc) := rfl
        simp only [bd_ok, sb_ok, tn_nx, tn_rt, tn_bk, tn_ct, lo_some, slo_some, vr0, vrS, ap_var, ap_const, ap_pure, ap_bin, ap_nil, ap_cons, ap_star, ap_tup, ap_lst, ap_cb, ap_isi, ap_rgl, ap_if, ap_not, tru_t, tru_f, ap_or, ap_and, ap_toB, ap_bNot, ap_bAnd, ap_bOr, ap_bCmp, boolO_some', ap_iE, ap_iR1, ap_iR2, ap_iEn, ap_iZip, ap_pN, ap_pS, ap_sl, call_ok, ap_call, callI_ok, ap_callIo, ap_hole, ls0, lsS, ap_bor', borE_int, borE_bool, ap_borT, borT_ok, ap_move, ap_sNil, ap_sPass, ap_seq, ap_asg, ap_asgs, ap_ret, ap_expr, ap_sIf, ap_for, ap_setIx, ap_mut, optE_some, tup0, tup1, tup2, tup3, lst0, lst1, lst2, lst3, aName, aCons, aNil, aTup2, Option.bind_some, Option.map_some, List.set_cons_zero, List.set_cons_succ, List.cons_append, List.nil_append, if_true, if_false, Bool.false_eq_true, if_pos, reduceIte, this]) rfl rfl hs (fun _ _ => rfl) (fun a m => by
      have := ix_row (r := r) (h a m).1 (by rw [hr]; exact (h a m).2)
      simp only [bd_ok, sb_ok, tn_nx, tn_rt, tn_bk, tn_ct, lo_some, slo_some, vr0, vrS, ap_var, ap_const, ap_pure, ap_bin, ap_nil, ap_cons, ap_star, ap_tup, ap_lst, ap_cb, ap_isi, ap_rgl, ap_if, ap_not, tru_t, tru_f, ap_or, ap_and, ap_toB, ap_bNot, ap_bAnd, ap_bOr, ap_bCmp, boolO_some', ap_iE, ap_iR1, ap_iR2, ap_iEn, ap_iZip, ap_pN, ap_pS, ap_sl, call_ok, ap_call, callI_ok, ap_callIo, ap_hole, ls0, lsS, ap_bor', borE_int, borE_bool, ap_borT, borT_ok, ap_move, ap_sNil, ap_sPass, ap_seq, ap_asg, ap_asgs, ap_ret, ap_expr, ap_sIf, ap_for, ap_setIx, ap_mut, optE_some, tup0, tup1, tup2, tup3, lst0, lst1, lst2, lst3, aName, aCons, aNil, aTup2, Option.bind_some, Option.map_some, List.set_cons_zero, List.set_cons_succ, List.cons_append, List.nil_append, if_true, if_false, Bool.false_eq_true, if_pos, reduceIte, this, ne_ii]) (fun _ _ _ => by simp only [bd_ok, sb_ok, tn_nx, tn_rt, tn_bk, tn_ct, lo_some, slo_some, vr0, vrS, ap_var, ap_const, ap_pure, ap_bin, ap_nil, ap_cons, ap_star, ap_tup, ap_lst, ap_cb, ap_isi, ap_rgl, ap_if, ap_not, tru_t, tru_f, ap_or, ap_and, ap_toB, ap_bNot, ap_bAnd, ap_bOr, ap_bCmp, boolO_some', ap_iE, ap_iR1, ap_iR2, ap_iEn, ap_iZip, ap_pN, ap_pS, ap_sl, call_ok, ap_call, callI_ok, ap_callIo, ap_hole, ls0, lsS, ap_bor', borE_int, borE_bool, ap_borT, borT_ok, ap_move, ap_sNil, ap_sPass, ap_seq, ap_asg, ap_asgs, ap_ret, ap_expr, ap_sIf, ap_for, ap_setIx, ap_mut, optE_some, tup0, tup1, tup2, tup3, lst0, lst1, lst2, lst3, aName, aCons, aNil, aTup2, Option.bind_some, Option.map_some, List.set_cons_zero, List.set_cons_succ, List.cons_append, List.nil_append, if_true, if_false, Bool.false_eq_true, if_pos, reduceIte]) (fun _ _ => rfl)
  simp only [bd_ok, sb_ok, tn_nx, tn_rt, tn_bk, tn_ct, lo_some, slo_some, vr0, vrS, ap_var, ap_const, ap_pure, ap_bin, ap_nil, ap_cons, ap_star, ap_tup, ap_lst, ap_cb, ap_isi, ap_rgl, ap_if, ap_not, tru_t, tru_f, ap_or, ap_and, ap_toB, ap_bNot, ap_bAnd, ap_bOr, ap_bCmp, boolO_some', ap_iE, ap_iR1, ap_iR2, ap_iEn, ap_iZip, ap_pN, ap_pS, ap_sl, call_ok, ap_call, callI_ok, ap_callIo, ap_hole, ls0, lsS, ap_bor', borE_int, borE_bool, ap_borT, borT_ok, ap_move, ap_sNil, ap_sPass, ap_seq, ap_asg, ap_asgs, ap_ret, ap_expr, ap_sIf, ap_for, ap_setIx, ap_mut, optE_some, tup0, tup1, tup2, tup3, lst0, lst1, lst2, lst3, aName, aCons, aNil, aTup2, Option.bind_some, Option.map_some, List.set_cons_zero, List.set_cons_succ, List.cons_append, List.nil_append, if_true, if_false, Bool.false_eq_true, if_pos, reduceIte, hc, eq_nil_ones, isEmpty_filter]
  rfl
def b_lpart (φ : Str → FnSem) : MS := sSeq (sRet (cBin hEq (cLc (iE (cVar 0)) (aName 2) (bCmp hNotIn (cVar 2) (cVar 1)) (cVar 2) [2]) (cLst (cNil)))) (sNil)
theorem lpart_ok {φ : Str → FnSem} (s t : Say) (hs : s.length ≤ lineN) : runG ⟨2, none, false⟩ 3 (b_lpart φ) [enc s, enc t] = .ok (.bool (part s t)) .none := by
  refine runG_rt (ρ := [some (enc s), some (enc t), none]) rfl ?_
  show b_lpart φ [some (enc s), some (enc t), none] = _
  unfold b_lpart
  have hc := cLc_ok (gi := iE (cVar 0)) (f := aName 2) (t := bCmp hNotIn (cVar 2) (cVar 1)) (e := cVar 2) (vs := [2]) (ρ := [some (enc s), some (enc t), none]) enc (fun a => [some (enc s), some (enc t), some (enc a)]) (fun a => !decide (a ∈ t)) enc s
    (by have : drawn (enc s) = some (s.map enc) := rfl
        simp only [bd_ok, sb_ok, tn_nx, tn_rt, tn_bk, tn_ct, lo_some, slo_some, vr0, vrS, ap_var, ap_const, ap_pure, ap_bin, ap_nil, ap_cons, ap_star, ap_tup, ap_lst, ap_cb, ap_isi, ap_rgl, ap_if, ap_not, tru_t, tru_f, ap_or, ap_and, ap_toB, ap_bNot, ap_bAnd, ap_bOr, ap_bCmp, boolO_some', ap_iE, ap_iR1, ap_iR2, ap_iEn, ap_iZip, ap_pN, ap_pS, ap_sl, call_ok, ap_call, callI_ok, ap_callIo, ap_hole, ls0, lsS, ap_bor', borE_int, borE_bool, ap_borT, borT_ok, ap_move, ap_sNil, ap_sPass, ap_seq, ap_asg, ap_asgs, ap_ret, ap_expr, ap_sIf, ap_for, ap_setIx, ap_mut, optE_some, tup0, tup1, tup2, tup3, lst0, lst1, lst2, lst3, aName, aCons, aNil, aTup2, Option.bind_some, Option.map_some, List.set_cons_zero, List.set_cons_succ, List.cons_append, List.nil_append, if_true, if_false, Bool.false_eq_true, if_pos, reduceIte, this]) rfl rfl hs (fun _ _ => rfl) (fun a _ => by
      have := notIn_say a t
      simp only [bd_ok, sb_ok, tn_nx, tn_rt, tn_bk, tn_ct, lo_some, slo_some, vr0, vrS, ap_var, ap_const, ap_pure, ap_bin, ap_nil, ap_cons, ap_star, ap_tup, ap_lst, ap_cb, ap_isi, ap_rgl, ap_if, ap_not, tru_t, tru_f, ap_or, ap_and, ap_toB, ap_bNot, ap_bAnd, ap_bOr, ap_bCmp, boolO_some', ap_iE, ap_iR1, ap_iR2, ap_iEn, ap_iZip, ap_pN, ap_pS, ap_sl, call_ok, ap_call, callI_ok, ap_callIo, ap_hole, ls0, lsS, ap_bor', borE_int, borE_bool, ap_borT, borT_ok, ap_move, ap_sNil, ap_sPass, ap_seq, ap_asg, ap_asgs, ap_ret, ap_expr, ap_sIf, ap_for, ap_setIx, ap_mut, optE_some, tup0, tup1, tup2, tup3, lst0, lst1, lst2, lst3, aName, aCons, aNil, aTup2, Option.bind_some, Option.map_some, List.set_cons_zero, List.set_cons_succ, List.cons_append, List.nil_append, if_true, if_false, Bool.false_eq_true, if_pos, reduceIte, this]) (fun _ _ _ => by simp only [bd_ok, sb_ok, tn_nx, tn_rt, tn_bk, tn_ct, lo_some, slo_some, vr0, vrS, ap_var, ap_const, ap_pure, ap_bin, ap_nil, ap_cons, ap_star, ap_tup, ap_lst, ap_cb, ap_isi, ap_rgl, ap_if, ap_not, tru_t, tru_f, ap_or, ap_and, ap_toB, ap_bNot, ap_bAnd, ap_bOr, ap_bCmp, boolO_some', ap_iE, ap_iR1, ap_iR2, ap_iEn, ap_iZip, ap_pN, ap_pS, ap_sl, call_ok, ap_call, callI_ok, ap_callIo, ap_hole, ls0, lsS, ap_bor', borE_int, borE_bool, ap_borT, borT_ok, ap_move, ap_sNil, ap_sPass, ap_seq, ap_asg, ap_asgs, ap_ret, ap_expr, ap_sIf, ap_for, ap_setIx, ap_mut, optE_some, tup0, tup1, tup2, tup3, lst0, lst1, lst2, lst3, aName, aCons, aNil, aTup2, Option.bind_some, Option.map_some, List.set_cons_zero, List.set_cons_succ, List.cons_append, List.nil_append, if_true, if_false, Bool.false_eq_true, if_pos, reduceIte]) (fun _ _ => rfl)
  have he := hEq_nil (α := Int × Int) (by decide) (s.filter fun a => !decide (a ∈ t))
  simp only [bd_ok, sb_ok, tn_nx, tn_rt, tn_bk, tn_ct, lo_some, slo_some, vr0, vrS, ap_var, ap_const, ap_pure, ap_bin, ap_nil, ap_cons, ap_star, ap_tup, ap_lst, ap_cb, ap_isi, ap_rgl, ap_if, ap_not, tru_t, tru_f, ap_or, ap_and, ap_toB, ap_bNot, ap_bAnd, ap_bOr, ap_bCmp, boolO_some', ap_iE, ap_iR1, ap_iR2, ap_iEn, ap_iZip, ap_pN, ap_pS, ap_sl, call_ok, ap_call, callI_ok, ap_callIo, ap_hole, ls0, lsS, ap_bor', borE_int, borE_bool, ap_borT, borT_ok, ap_move, ap_sNil, ap_sPass, ap_seq, ap_asg, ap_asgs, ap_ret, ap_expr, ap_sIf, ap_for, ap_setIx, ap_mut, optE_some, tup0, tup1, tup2, tup3, lst0, lst1, lst2, lst3, aName, aCons, aNil, aTup2, Option.bind_some, Option.map_some, List.set_cons_zero, List.set_cons_succ, List.cons_append, List.nil_append, if_true, if_false, Bool.false_eq_true, if_pos, reduceIte, hc, he]
  rw [filter_nil_all (fun a => decide (a ∈ t)) s]
  rfl
/-! ### least sayings -/
def stepL (rows : List (List Int)) (found : List Say) (s : Say) : List Say := if (!found.any fun t => part t s) && !rows.any fun r => barsT s r then found ++ [s] else found
noncomputable def LSt (n : Nat) (rows : List (List Int)) : List Say := (AS n).foldl (stepL rows) []
theorem foldl_stepL (rows : List (List Int)) : ∀ (l found : List Say), ∀ s ∈ l.foldl (stepL rows) found, s ∈ found ∨ (s ∈ l ∧ rows.any (fun r => barsT s r) = false)
  | [], found, s, h => .inl h
  | x :: l, found, s, h => by
    rw [List.foldl_cons] at h
    rcases foldl_stepL rows l _ s h with h | h
    · unfold stepL at h
      split at h
      · rename_i c
        rw [Bool.and_eq_true, Bool.not_eq_true', Bool.not_eq_true'] at c
        rcases List.mem_append.mp h with h | h
        · exact .inl h
        · rw [List.mem_singleton.mp h]
          exact .inr ⟨List.mem_cons_self .., c.2⟩
      · exact .inl h
    · exact .inr ⟨List.mem_cons_of_mem _ h.1, h.2⟩
theorem LSt_mem {n : Nat} {rows : List (List Int)} {s : Say} (h : s ∈ LSt n rows) : s ∈ SAYS n ∧ rows.any (fun r => barsT s r) = false := by
  rcases foldl_stepL rows _ _ s h with h | h
  · cases h
  · exact ⟨AS_mem.mp h.1, h.2⟩
theorem foldl_len (rows : List (List Int)) : ∀ (l found : List Say), (l.foldl (stepL rows) found).length ≤ found.length + l.length
  | [], found => Nat.le_refl _
  | x :: l, found => by
    rw [List.foldl_cons]
    refine Nat.le_trans (foldl_len rows l _) ?_
    unfold stepL
    split
    · rw [List.length_append, List.length_singleton, List.length_cons]; omega
    · rw [List.length_cons]; omega
theorem LSt_len (n : Nat) (rows : List (List Int)) : (LSt n rows).length ≤ 3 ^ n := by
  have := foldl_len rows (AS n) []
  rw [AS_len] at this
  unfold LSt
  simpa using this
theorem nil_SAYS : ∀ n : Nat, ([] : Say) ∈ SAYS n
  | 0 => by simp [SAYS]
  | n + 1 => by rw [SAYS_succ, nextS]; exact List.mem_append_left _ (nil_SAYS n)
theorem AS_head (n : Nat) : ∃ l, AS n = [] :: l := by
  have h1 := AS_mem.mpr (nil_SAYS n)
  have h2 := AS_sorted n
  cases e : AS n with
  | nil => rw [e] at h1; cases h1
  | cons x l =>
    rw [e] at h1 h2
    rw [List.pairwise_cons] at h2
    rcases List.mem_cons.mp h1 with rfl | h1
    · exact ⟨l, rfl⟩
    · have := h2.1 [] h1
      have : x = [] := List.length_eq_zero_iff.mp (by simpa using this)
      rw [this]
      exact ⟨l, rfl⟩
theorem LSt_none (n : Nat) : LSt n [] = [[]] := by
  obtain ⟨l, e⟩ := AS_head n
  unfold LSt
  rw [e, List.foldl_cons]
  have : stepL [] [] [] = [[]] := rfl
  rw [this]
  clear e this
  induction l with
  | nil => rfl
  | cons x l ih =>
    rw [List.foldl_cons]
    have : stepL [] [[]] x = [[]] := by
      unfold stepL
      have h : ([[]] : List Say).any (fun t => part t x) = true := rfl
      rw [h]
      rfl
    rw [this]
    exact ih
theorem LSt_sortable {n : Nat} (hn : n ≤ 13) (rows : List (List Int)) : hSorted1 [.list ((LSt n rows).map enc)] = some (.list ((sortT (LSt n rows)).map enc)) := by
  refine hSorted_enc (α := Say) (by decide) _ (Nat.le_trans (LSt_len n rows) (Nat.le_trans (three_le hn) (by decide))) ?_
  cases rows with
  | nil => rw [LSt_none]; exact .inl (by decide)
  | cons r rows =>
    refine .inr (.inl fun s hs => ?_)
    cases s with
    | nil =>
      have := (LSt_mem hs).2
      simp [barsT] at this
    | cons a s => rfl
noncomputable def least (n : Nat) (rows : List (List Int)) : List Say := sortT (LSt n rows)
theorem least_mem {n : Nat} {rows : List (List Int)} {s : Say} : s ∈ least n rows ↔ s ∈ LSt n rows := sortT_mem
theorem lfs_bools {α : Type} (f : α → Bool) (xs : List α) : lfo (.list (xs.map fun x => .bool (f x))) = true := by
  have := lfs_all (xs.map f)
  rw [List.map_map] at this
  exact this
theorem lfo_enc {α : Type} [DecidableEq α] [Enc α] (xs : List α) : lfo (.list (xs.map enc)) = true := lfs_all xs
theorem app_ok {ds : List Dat} {d : Dat} (h : ds.length < lineN) : uApp ds [d] = some (ds ++ [d], .none) := if_pos h
noncomputable def b_least (φ : Str → FnSem) : MS := sSeq (sAsgs (cCons (cLst (cNil)) (cCons (cLc (iE (cVar 1)) (aName 5) (M.pure true) (cCB hTuple (cCons (cVar 5) (cNil))) [5]) (cNil))) [3, 4]) (sSeq (sFor (iE (cCall (φ "every_saying") (cCons (cVar 0) (cNil)))) (aName 2) (sSeq (sIf (bAnd (bNot (toB (cCB hAny (cCons (cBorO (cLc (iE (cVar 3)) (aName 6) (M.pure true) (cCall (φ "is_part") (cCons (cVar 6) (cCons (cVar 2) (cNil)))) [6])) (cNil))))) (bNot (toB (cCB hAny (cCons (cLc (iE (cVar 4)) (aName 5) (M.pure true) (cCall (φ "bars") (cCons (cVar 2) (cCons (cVar 5) (cNil)))) [5]) (cNil)))))) (sSeq (sExpr (cMut 3 uApp (cCons (cVar 2) (cNil)))) (sNil)) (sNil)) (sNil))) (sSeq (sRet (cCB hTuple (cCons (cBorO (cCB hSorted1 (cCons (cVar 3) (cNil)))) (cNil)))) (sNil)))
theorem least_ok {φ ψ : Str → FnSem} (he : φ "every_saying" = runG ⟨1, none, false⟩ 6 (b_every ψ)) (hp : φ "is_part" = runG ⟨2, none, false⟩ 3 (b_ispart ψ)) (hb : φ "bars" = runG ⟨2, none, false⟩ 4 (b_bars ψ)) (n : Nat) (hn : n ≤ 13) (rows : List (List Int)) (hr : ∀ r ∈ rows, r.length = n) (hrl : rows.length ≤ lineN)
    (rf : List Int → Dat) (d : Dat) (hd : drawn d = some (rows.map rf)) (hrf : ∀ r, hTuple [rf r] = some (enc r)) : runG ⟨2, none, false⟩ 7 (b_least φ) [.int (n : Nat), d] = .ok (enc (least n rows)) .none := by
  have h1 := cLc_map (gi := iE (cVar 1)) (f := aName 5) (e := cCB hTuple (cCons (cVar 5) (cNil))) (vs := [5]) (ρ := [some (.int (n : Nat)), some d, none, none, none, none, none]) rf (fun r => [some (.int (n : Nat)), some d, none, none, none, some (rf r), none]) enc rows
    (by simp only [bd_ok, sb_ok, tn_nx, tn_rt, tn_bk, tn_ct, lo_some, slo_some, vr0, vrS, ap_var, ap_const, ap_pure, ap_bin, ap_nil, ap_cons, ap_star, ap_tup, ap_lst, ap_cb, ap_isi, ap_rgl, ap_if, ap_not, tru_t, tru_f, ap_or, ap_and, ap_toB, ap_bNot, ap_bAnd, ap_bOr, ap_bCmp, boolO_some', ap_iE, ap_iR1, ap_iR2, ap_iEn, ap_iZip, ap_pN, ap_pS, ap_sl, call_ok, ap_call, callI_ok, ap_callIo, ap_hole, ls0, lsS, ap_bor', borE_int, borE_bool, ap_borT, borT_ok, ap_move, ap_sNil, ap_sPass, ap_seq, ap_asg, ap_asgs, ap_ret, ap_expr, ap_sIf, ap_for, ap_setIx, ap_mut, optE_some, tup0, tup1, tup2, tup3, lst0, lst1, lst2, lst3, aName, aCons, aNil, aTup2, Option.bind_some, Option.map_some, List.set_cons_zero, List.set_cons_succ, List.cons_append, List.nil_append, if_true, if_false, Bool.false_eq_true, if_pos, reduceIte, hd]) rfl rfl hrl (fun _ _ => rfl) (fun r _ => by simp only [bd_ok, sb_ok, tn_nx, tn_rt, tn_bk, tn_ct, lo_some, slo_some, vr0, vrS, ap_var, ap_const, ap_pure, ap_bin, ap_nil, ap_cons, ap_star, ap_tup, ap_lst, ap_cb, ap_isi, ap_rgl, ap_if, ap_not, tru_t, tru_f, ap_or, ap_and, ap_toB, ap_bNot, ap_bAnd, ap_bOr, ap_bCmp, boolO_some', ap_iE, ap_iR1, ap_iR2, ap_iEn, ap_iZip, ap_pN, ap_pS, ap_sl, call_ok, ap_call, callI_ok, ap_callIo, ap_hole, ls0, lsS, ap_bor', borE_int, borE_bool, ap_borT, borT_ok, ap_move, ap_sNil, ap_sPass, ap_seq, ap_asg, ap_asgs, ap_ret, ap_expr, ap_sIf, ap_for, ap_setIx, ap_mut, optE_some, tup0, tup1, tup2, tup3, lst0, lst1, lst2, lst3, aName, aCons, aNil, aTup2, Option.bind_some, Option.map_some, List.set_cons_zero, List.set_cons_succ, List.cons_append, List.nil_append, if_true, if_false, Bool.false_eq_true, if_pos, reduceIte, hrf r]) (fun _ _ => rfl)
  have hA : ∀ s ∈ AS n, SayOk n s := fun s hs => SAYS_ok n s (AS_mem.mp hs)
  have small : ∀ {m : Nat}, m ≤ 1594323 → m ≤ lineN := fun h => Nat.le_trans h (by decide)
  have loop := forL_meas (τ := List Say × Option Dat) (f := aName 2) (b := sSeq (sIf (bAnd (bNot (toB (cCB hAny (cCons (cBorO (cLc (iE (cVar 3)) (aName 6) (M.pure true) (cCall (φ "is_part") (cCons (cVar 6) (cCons (cVar 2) (cNil)))) [6])) (cNil))))) (bNot (toB (cCB hAny (cCons (cLc (iE (cVar 4)) (aName 5) (M.pure true) (cCall (φ "bars") (cCons (cVar 2) (cCons (cVar 5) (cNil)))) [5]) (cNil)))))) (sSeq (sExpr (cMut 3 uApp (cCons (cVar 2) (cNil)))) (sNil)) (sNil)) (sNil)) (enc (α := Say))
    (fun s => [some (.int (n : Nat)), some d, s.2, some (.list (s.1.map enc)), some (.list (rows.map enc)), none, none]) (fun s x => (stepL rows s.1 x, some (enc x))) (fun xs s => s.1.length + xs.length ≤ 1594323 ∧ (∀ x ∈ xs, SayOk n x) ∧ ∀ x ∈ s.1, x.length ≤ n) (fun x xs s q => by
      obtain ⟨fs, o⟩ := s
      obtain ⟨q1, q2, q3⟩ := q
      dsimp only at q1 q2 q3
      rw [List.length_cons] at q1
      have hx := q2 x (List.mem_cons_self ..)
      refine ⟨⟨_, rfl, ?_⟩, ?_, fun y hy => q2 y (List.mem_cons_of_mem _ hy), ?_⟩
      · have c1 := cLc_map (gi := iE (cVar 3)) (f := aName 6) (e := cCall (φ "is_part") (cCons (cVar 6) (cCons (cVar 2) (cNil)))) (vs := [6]) (ρ := [some (.int (n : Nat)), some d, some (enc x), some (.list (fs.map enc)), some (.list (rows.map enc)), none, none]) enc (fun t => [some (.int (n : Nat)), some d, some (enc x), some (.list (fs.map enc)), some (.list (rows.map enc)), none, some (enc t)]) (fun t => .bool (part t x)) fs
          (by simp only [bd_ok, sb_ok, tn_nx, tn_rt, tn_bk, tn_ct, lo_some, slo_some, vr0, vrS, ap_var, ap_const, ap_pure, ap_bin, ap_nil, ap_cons, ap_star, ap_tup, ap_lst, ap_cb, ap_isi, ap_rgl, ap_if, ap_not, tru_t, tru_f, ap_or, ap_and, ap_toB, ap_bNot, ap_bAnd, ap_bOr, ap_bCmp, boolO_some', ap_iE, ap_iR1, ap_iR2, ap_iEn, ap_iZip, ap_pN, ap_pS, ap_sl, call_ok, ap_call, callI_ok, ap_callIo, ap_hole, ls0, lsS, ap_bor', borE_int, borE_bool, ap_borT, borT_ok, ap_move, ap_sNil, ap_sPass, ap_seq, ap_asg, ap_asgs, ap_ret, ap_expr, ap_sIf, ap_for, ap_setIx, ap_mut, optE_some, tup0, tup1, tup2, tup3, lst0, lst1, lst2, lst3, aName, aCons, aNil, aTup2, Option.bind_some, Option.map_some, List.set_cons_zero, List.set_cons_succ, List.cons_append, List.nil_append, if_true, if_false, Bool.false_eq_true, if_pos, reduceIte, drawn_l]) rfl rfl (small (by omega)) (fun _ _ => rfl) (fun t ht => by
            have : φ "is_part" [enc t, enc x] = .ok (.bool (part t x)) .none := by rw [hp]; exact ispart_ok t x (small (Nat.le_trans (q3 t ht) (by omega)))
            simp only [bd_ok, sb_ok, tn_nx, tn_rt, tn_bk, tn_ct, lo_some, slo_some, vr0, vrS, ap_var, ap_const, ap_pure, ap_bin, ap_nil, ap_cons, ap_star, ap_tup, ap_lst, ap_cb, ap_isi, ap_rgl, ap_if, ap_not, tru_t, tru_f, ap_or, ap_and, ap_toB, ap_bNot, ap_bAnd, ap_bOr, ap_bCmp, boolO_some', ap_iE, ap_iR1, ap_iR2, ap_iEn, ap_iZip, ap_pN, ap_pS, ap_sl, call_ok, ap_call, callI_ok, ap_callIo, ap_hole, ls0, lsS, ap_bor', borE_int, borE_bool, ap_borT, borT_ok, ap_move, ap_sNil, ap_sPass, ap_seq, ap_asg, ap_asgs, ap_ret, ap_expr, ap_sIf, ap_for, ap_setIx, ap_mut, optE_some, tup0, tup1, tup2, tup3, lst0, lst1, lst2, lst3, aName, aCons, aNil, aTup2, Option.bind_some, Option.map_some, List.set_cons_zero, List.set_cons_succ, List.cons_append, List.nil_append, if_true, if_false, Bool.false_eq_true, if_pos, reduceIte, this]) (fun _ _ => rfl)
        have c2 := borO_ok c1 (lfs_bools (fun t => part t x) fs)
        have c3 := cLc_map (gi := iE (cVar 4)) (f := aName 5) (e := cCall (φ "bars") (cCons (cVar 2) (cCons (cVar 5) (cNil)))) (vs := [5]) (ρ := [some (.int (n : Nat)), some d, some (enc x), some (.list (fs.map enc)), some (.list (rows.map enc)), none, none]) enc (fun r => [some (.int (n : Nat)), some d, some (enc x), some (.list (fs.map enc)), some (.list (rows.map enc)), some (enc r), none]) (fun r => .bool (barsT x r)) rows
          (by simp only [bd_ok, sb_ok, tn_nx, tn_rt, tn_bk, tn_ct, lo_some, slo_some, vr0, vrS, ap_var, ap_const, ap_pure, ap_bin, ap_nil, ap_cons, ap_star, ap_tup, ap_lst, ap_cb, ap_isi, ap_rgl, ap_if, ap_not, tru_t, tru_f, ap_or, ap_and, ap_toB, ap_bNot, ap_bAnd, ap_bOr, ap_bCmp, boolO_some', ap_iE, ap_iR1, ap_iR2, ap_iEn, ap_iZip, ap_pN, ap_pS, ap_sl, call_ok, ap_call, callI_ok, ap_callIo, ap_hole, ls0, lsS, ap_bor', borE_int, borE_bool, ap_borT, borT_ok, ap_move, ap_sNil, ap_sPass, ap_seq, ap_asg, ap_asgs, ap_ret, ap_expr, ap_sIf, ap_for, ap_setIx, ap_mut, optE_some, tup0, tup1, tup2, tup3, lst0, lst1, lst2, lst3, aName, aCons, aNil, aTup2, Option.bind_some, Option.map_some, List.set_cons_zero, List.set_cons_succ, List.cons_append, List.nil_append, if_true, if_false, Bool.false_eq_true, if_pos, reduceIte, drawn_l]) rfl rfl hrl (fun _ _ => rfl) (fun r hr' => by
            have : φ "bars" [enc x, enc r] = .ok (.bool (barsT x r)) .none := by rw [hb]; exact bars_ok x r (small (Nat.le_trans hx.1 (by omega))) (fun a ha => (hx.2.2 a ha).1) (hr r hr')
            simp only [bd_ok, sb_ok, tn_nx, tn_rt, tn_bk, tn_ct, lo_some, slo_some, vr0, vrS, ap_var, ap_const, ap_pure, ap_bin, ap_nil, ap_cons, ap_star, ap_tup, ap_lst, ap_cb, ap_isi, ap_rgl, ap_if, ap_not, tru_t, tru_f, ap_or, ap_and, ap_toB, ap_bNot, ap_bAnd, ap_bOr, ap_bCmp, boolO_some', ap_iE, ap_iR1, ap_iR2, ap_iEn, ap_iZip, ap_pN, ap_pS, ap_sl, call_ok, ap_call, callI_ok, ap_callIo, ap_hole, ls0, lsS, ap_bor', borE_int, borE_bool, ap_borT, borT_ok, ap_move, ap_sNil, ap_sPass, ap_seq, ap_asg, ap_asgs, ap_ret, ap_expr, ap_sIf, ap_for, ap_setIx, ap_mut, optE_some, tup0, tup1, tup2, tup3, lst0, lst1, lst2, lst3, aName, aCons, aNil, aTup2, Option.bind_some, Option.map_some, List.set_cons_zero, List.set_cons_succ, List.cons_append, List.nil_append, if_true, if_false, Bool.false_eq_true, if_pos, reduceIte, this]) (fun _ _ => rfl)
        simp only [bd_ok, sb_ok, tn_nx, tn_rt, tn_bk, tn_ct, lo_some, slo_some, vr0, vrS, ap_var, ap_const, ap_pure, ap_bin, ap_nil, ap_cons, ap_star, ap_tup, ap_lst, ap_cb, ap_isi, ap_rgl, ap_if, ap_not, tru_t, tru_f, ap_or, ap_and, ap_toB, ap_bNot, ap_bAnd, ap_bOr, ap_bCmp, boolO_some', ap_iE, ap_iR1, ap_iR2, ap_iEn, ap_iZip, ap_pN, ap_pS, ap_sl, call_ok, ap_call, callI_ok, ap_callIo, ap_hole, ls0, lsS, ap_bor', borE_int, borE_bool, ap_borT, borT_ok, ap_move, ap_sNil, ap_sPass, ap_seq, ap_asg, ap_asgs, ap_ret, ap_expr, ap_sIf, ap_for, ap_setIx, ap_mut, optE_some, tup0, tup1, tup2, tup3, lst0, lst1, lst2, lst3, aName, aCons, aNil, aTup2, Option.bind_some, Option.map_some, List.set_cons_zero, List.set_cons_succ, List.cons_append, List.nil_append, if_true, if_false, Bool.false_eq_true, if_pos, reduceIte, c2, any_map, tru_b]
        unfold stepL
        cases e1 : fs.any (fun t => part t x) with
        | true => simp only [bd_ok, sb_ok, tn_nx, tn_rt, tn_bk, tn_ct, lo_some, slo_some, vr0, vrS, ap_var, ap_const, ap_pure, ap_bin, ap_nil, ap_cons, ap_star, ap_tup, ap_lst, ap_cb, ap_isi, ap_rgl, ap_if, ap_not, tru_t, tru_f, ap_or, ap_and, ap_toB, ap_bNot, ap_bAnd, ap_bOr, ap_bCmp, boolO_some', ap_iE, ap_iR1, ap_iR2, ap_iEn, ap_iZip, ap_pN, ap_pS, ap_sl, call_ok, ap_call, callI_ok, ap_callIo, ap_hole, ls0, lsS, ap_bor', borE_int, borE_bool, ap_borT, borT_ok, ap_move, ap_sNil, ap_sPass, ap_seq, ap_asg, ap_asgs, ap_ret, ap_expr, ap_sIf, ap_for, ap_setIx, ap_mut, optE_some, tup0, tup1, tup2, tup3, lst0, lst1, lst2, lst3, aName, aCons, aNil, aTup2, Option.bind_some, Option.map_some, List.set_cons_zero, List.set_cons_succ, List.cons_append, List.nil_append, if_true, if_false, Bool.false_eq_true, if_pos, reduceIte, Bool.not_true, Bool.false_and]
        | false =>
          simp only [bd_ok, sb_ok, tn_nx, tn_rt, tn_bk, tn_ct, lo_some, slo_some, vr0, vrS, ap_var, ap_const, ap_pure, ap_bin, ap_nil, ap_cons, ap_star, ap_tup, ap_lst, ap_cb, ap_isi, ap_rgl, ap_if, ap_not, tru_t, tru_f, ap_or, ap_and, ap_toB, ap_bNot, ap_bAnd, ap_bOr, ap_bCmp, boolO_some', ap_iE, ap_iR1, ap_iR2, ap_iEn, ap_iZip, ap_pN, ap_pS, ap_sl, call_ok, ap_call, callI_ok, ap_callIo, ap_hole, ls0, lsS, ap_bor', borE_int, borE_bool, ap_borT, borT_ok, ap_move, ap_sNil, ap_sPass, ap_seq, ap_asg, ap_asgs, ap_ret, ap_expr, ap_sIf, ap_for, ap_setIx, ap_mut, optE_some, tup0, tup1, tup2, tup3, lst0, lst1, lst2, lst3, aName, aCons, aNil, aTup2, Option.bind_some, Option.map_some, List.set_cons_zero, List.set_cons_succ, List.cons_append, List.nil_append, if_true, if_false, Bool.false_eq_true, if_pos, reduceIte, Bool.not_false, c3, any_map, tru_b, Bool.true_and]
          cases e2 : rows.any (fun r => barsT x r) with
          | true => simp only [bd_ok, sb_ok, tn_nx, tn_rt, tn_bk, tn_ct, lo_some, slo_some, vr0, vrS, ap_var, ap_const, ap_pure, ap_bin, ap_nil, ap_cons, ap_star, ap_tup, ap_lst, ap_cb, ap_isi, ap_rgl, ap_if, ap_not, tru_t, tru_f, ap_or, ap_and, ap_toB, ap_bNot, ap_bAnd, ap_bOr, ap_bCmp, boolO_some', ap_iE, ap_iR1, ap_iR2, ap_iEn, ap_iZip, ap_pN, ap_pS, ap_sl, call_ok, ap_call, callI_ok, ap_callIo, ap_hole, ls0, lsS, ap_bor', borE_int, borE_bool, ap_borT, borT_ok, ap_move, ap_sNil, ap_sPass, ap_seq, ap_asg, ap_asgs, ap_ret, ap_expr, ap_sIf, ap_for, ap_setIx, ap_mut, optE_some, tup0, tup1, tup2, tup3, lst0, lst1, lst2, lst3, aName, aCons, aNil, aTup2, Option.bind_some, Option.map_some, List.set_cons_zero, List.set_cons_succ, List.cons_append, List.nil_append, if_true, if_false, Bool.false_eq_true, if_pos, reduceIte, Bool.not_true]
          | false =>
            simp only [bd_ok, sb_ok, tn_nx, tn_rt, tn_bk, tn_ct, lo_some, slo_some, vr0, vrS, ap_var, ap_const, ap_pure, ap_bin, ap_nil, ap_cons, ap_star, ap_tup, ap_lst, ap_cb, ap_isi, ap_rgl, ap_if, ap_not, tru_t, tru_f, ap_or, ap_and, ap_toB, ap_bNot, ap_bAnd, ap_bOr, ap_bCmp, boolO_some', ap_iE, ap_iR1, ap_iR2, ap_iEn, ap_iZip, ap_pN, ap_pS, ap_sl, call_ok, ap_call, callI_ok, ap_callIo, ap_hole, ls0, lsS, ap_bor', borE_int, borE_bool, ap_borT, borT_ok, ap_move, ap_sNil, ap_sPass, ap_seq, ap_asg, ap_asgs, ap_ret, ap_expr, ap_sIf, ap_for, ap_setIx, ap_mut, optE_some, tup0, tup1, tup2, tup3, lst0, lst1, lst2, lst3, aName, aCons, aNil, aTup2, Option.bind_some, Option.map_some, List.set_cons_zero, List.set_cons_succ, List.cons_append, List.nil_append, if_true, if_false, Bool.false_eq_true, if_pos, reduceIte, Bool.not_false, app_ok (ds := fs.map enc) (d := enc x) (by rw [List.length_map]; exact Nat.lt_of_lt_of_le (show fs.length < 1594324 by omega) (by decide))]
            rw [List.map_append]
            rfl
      · show (stepL rows fs x).length + xs.length ≤ 1594323
        unfold stepL
        split
        · rw [List.length_append, List.length_singleton]; omega
        · omega
      · intro y hy
        have hy : y ∈ stepL rows fs x := hy
        unfold stepL at hy
        split at hy
        · rcases List.mem_append.mp hy with hy | hy
          · exact q3 y hy
          · rw [List.mem_singleton.mp hy]; exact hx.1
        · exact q3 y hy) (AS n) ([], none) ⟨by
          show 0 + (AS n).length ≤ 1594323
          rw [AS_len, Nat.zero_add]; exact three_le hn, hA, fun _ h => by cases h⟩
  have fold : ((AS n).foldl (fun (s : List Say × Option Dat) x => (stepL rows s.1 x, some (enc x))) ([], none)).1 = LSt n rows := by
    unfold LSt
    have : ∀ (l : List Say) (s : List Say) (o : Option Dat), (l.foldl (fun (s : List Say × Option Dat) x => (stepL rows s.1 x, some (enc x))) (s, o)).1 = l.foldl (stepL rows) s := by
      intro l
      induction l with
      | nil => intro s o; rfl
      | cons x l ih => intro s o; rw [List.foldl_cons, List.foldl_cons]; exact ih _ _
    exact this _ _ _
  obtain ⟨s, hs⟩ : ∃ s, s = (AS n).foldl (fun (s : List Say × Option Dat) x => (stepL rows s.1 x, some (enc x))) ([], none) := ⟨_, rfl⟩
  rw [← hs] at loop fold
  refine runG_rt (ρ := [some (.int (n : Nat)), some d, s.2, some (.list ((LSt n rows).map enc)), some (.list (rows.map enc)), none, none]) rfl ?_
  show b_least φ [some (.int (n : Nat)), some d, none, none, none, none, none] = _
  unfold b_least
  rw [fold] at loop
  dsimp only at loop
  have hev : φ "every_saying" [.int (n : Nat)] = .ok (.list ((AS n).map enc)) .none := by rw [he]; exact every_ok n hn
  have l2 : [PyData.list [], PyData.list (rows.map enc)].length ≤ lineN := show (2 : Nat) ≤ lineN by decide
  have sa : setAll [some (PyData.int (n : Nat)), some d, none, none, none, none, none] [3, 4] [PyData.list [], PyData.list (rows.map enc)] = [some (.int (n : Nat)), some d, none, some (.list (([] : List Say).map enc)), some (.list (rows.map enc)), none, none] := rfl
  have hso := borO_ok (g := cCB hSorted1 (cCons (cVar 3) (cNil))) (ρ := [some (.int (n : Nat)), some d, s.2, some (.list ((LSt n rows).map enc)), some (.list (rows.map enc)), none, none]) (d := .list ((least n rows).map enc)) (by simp only [bd_ok, sb_ok, tn_nx, tn_rt, tn_bk, tn_ct, lo_some, slo_some, vr0, vrS, ap_var, ap_const, ap_pure, ap_bin, ap_nil, ap_cons, ap_star, ap_tup, ap_lst, ap_cb, ap_isi, ap_rgl, ap_if, ap_not, tru_t, tru_f, ap_or, ap_and, ap_toB, ap_bNot, ap_bAnd, ap_bOr, ap_bCmp, boolO_some', ap_iE, ap_iR1, ap_iR2, ap_iEn, ap_iZip, ap_pN, ap_pS, ap_sl, call_ok, ap_call, callI_ok, ap_callIo, ap_hole, ls0, lsS, ap_bor', borE_int, borE_bool, ap_borT, borT_ok, ap_move, ap_sNil, ap_sPass, ap_seq, ap_asg, ap_asgs, ap_ret, ap_expr, ap_sIf, ap_for, ap_setIx, ap_mut, optE_some, tup0, tup1, tup2, tup3, lst0, lst1, lst2, lst3, aName, aCons, aNil, aTup2, Option.bind_some, Option.map_some, List.set_cons_zero, List.set_cons_succ, List.cons_append, List.nil_append, if_true, if_false, Bool.false_eq_true, if_pos, reduceIte, LSt_sortable hn rows]; rfl) (lfo_enc _)
  have ht : hTuple [.list ((least n rows).map enc)] = some (enc (least n rows)) := rfl
  simp only [bd_ok, sb_ok, tn_nx, tn_rt, tn_bk, tn_ct, lo_some, slo_some, vr0, vrS, ap_var, ap_const, ap_pure, ap_bin, ap_nil, ap_cons, ap_star, ap_tup, ap_lst, ap_cb, ap_isi, ap_rgl, ap_if, ap_not, tru_t, tru_f, ap_or, ap_and, ap_toB, ap_bNot, ap_bAnd, ap_bOr, ap_bCmp, boolO_some', ap_iE, ap_iR1, ap_iR2, ap_iEn, ap_iZip, ap_pN, ap_pS, ap_sl, call_ok, ap_call, callI_ok, ap_callIo, ap_hole, ls0, lsS, ap_bor', borE_int, borE_bool, ap_borT, borT_ok, ap_move, ap_sNil, ap_sPass, ap_seq, ap_asg, ap_asgs, ap_ret, ap_expr, ap_sIf, ap_for, ap_setIx, ap_mut, optE_some, tup0, tup1, tup2, tup3, lst0, lst1, lst2, lst3, aName, aCons, aNil, aTup2, Option.bind_some, Option.map_some, List.set_cons_zero, List.set_cons_succ, List.cons_append, List.nil_append, if_true, if_false, Bool.false_eq_true, if_pos, reduceIte, h1]
  rw [if_pos l2]
  simp only [bd_ok, sb_ok, tn_nx, tn_rt, tn_bk, tn_ct, lo_some, slo_some, vr0, vrS, ap_var, ap_const, ap_pure, ap_bin, ap_nil, ap_cons, ap_star, ap_tup, ap_lst, ap_cb, ap_isi, ap_rgl, ap_if, ap_not, tru_t, tru_f, ap_or, ap_and, ap_toB, ap_bNot, ap_bAnd, ap_bOr, ap_bCmp, boolO_some', ap_iE, ap_iR1, ap_iR2, ap_iEn, ap_iZip, ap_pN, ap_pS, ap_sl, call_ok, ap_call, callI_ok, ap_callIo, ap_hole, ls0, lsS, ap_bor', borE_int, borE_bool, ap_borT, borT_ok, ap_move, ap_sNil, ap_sPass, ap_seq, ap_asg, ap_asgs, ap_ret, ap_expr, ap_sIf, ap_for, ap_setIx, ap_mut, optE_some, tup0, tup1, tup2, tup3, lst0, lst1, lst2, lst3, aName, aCons, aNil, aTup2, Option.bind_some, Option.map_some, List.set_cons_zero, List.set_cons_succ, List.cons_append, List.nil_append, if_true, if_false, Bool.false_eq_true, if_pos, reduceIte, sa, hev, drawn_l, loop, hso, ht]
noncomputable def b_lleast (φ : Str → FnSem) : MS := sSeq (sAsg (cLst (cNil)) (aName 2)) (sSeq (sFor (iE (cCall (φ "_law_all_sayings") (cCons (cVar 0) (cNil)))) (aName 3) (sSeq (sIf (bAnd (bCmp hEq (cLc (iE (cVar 1)) (aName 4) (toB (cCall (φ "_law_bars") (cCons (cVar 3) (cCons (cVar 4) (cNil))))) (cVar 4) [4]) (cLst (cNil))) (bCmp hEq (cBorO (cLc (iE (cVar 2)) (aName 5) (toB (cCall (φ "_law_part") (cCons (cVar 5) (cCons (cVar 3) (cNil))))) (cVar 5) [5])) (cLst (cNil)))) (sSeq (sExpr (cMut 2 uApp (cCons (cVar 3) (cNil)))) (sNil)) (sNil)) (sNil))) (sSeq (sRet (cCB hTuple (cCons (cBorO (cCB hSorted1 (cCons (cVar 2) (cNil)))) (cNil)))) (sNil)))
theorem lleast_ok {φ ψ : Str → FnSem} (he : ∀ m : Nat, m ≤ 13 → φ "_law_all_sayings" [.int (m : Nat)] = .ok (.list ((AS m).map enc)) .none) (hp : φ "_law_part" = runG ⟨2, none, false⟩ 3 (b_lpart ψ)) (hb : φ "_law_bars" = runG ⟨2, none, false⟩ 4 (b_lbars ψ)) (n : Nat) (hn : n ≤ 13) (rows : List (List Int)) (hr : ∀ r ∈ rows, r.length = n) (hrl : rows.length ≤ lineN) :
    runG ⟨2, none, false⟩ 6 (b_lleast φ) [.int (n : Nat), enc rows] = .ok (enc (least n rows)) .none := by
  have hA : ∀ s ∈ AS n, SayOk n s := fun s hs => SAYS_ok n s (AS_mem.mp hs)
  have small : ∀ {m : Nat}, m ≤ 1594323 → m ≤ lineN := fun h => Nat.le_trans h (by decide)
  have hdr : drawn (enc rows) = some (rows.map enc) := rfl
  have loop := forL_meas (τ := List Say × Option Dat) (f := aName 3) (b := sSeq (sIf (bAnd (bCmp hEq (cLc (iE (cVar 1)) (aName 4) (toB (cCall (φ "_law_bars") (cCons (cVar 3) (cCons (cVar 4) (cNil))))) (cVar 4) [4]) (cLst (cNil))) (bCmp hEq (cBorO (cLc (iE (cVar 2)) (aName 5) (toB (cCall (φ "_law_part") (cCons (cVar 5) (cCons (cVar 3) (cNil))))) (cVar 5) [5])) (cLst (cNil)))) (sSeq (sExpr (cMut 2 uApp (cCons (cVar 3) (cNil)))) (sNil)) (sNil)) (sNil)) (enc (α := Say))
    (fun s => [some (.int (n : Nat)), some (enc rows), some (.list (s.1.map enc)), s.2, none, none]) (fun s x => (stepL rows s.1 x, some (enc x))) (fun xs s => s.1.length + xs.length ≤ 1594323 ∧ (∀ x ∈ xs, SayOk n x) ∧ ∀ x ∈ s.1, x.length ≤ n) (fun x xs s q => by
      obtain ⟨fs, o⟩ := s
      obtain ⟨q1, q2, q3⟩ := q
      dsimp only at q1 q2 q3
      rw [List.length_cons] at q1
      have hx := q2 x (List.mem_cons_self ..)
      refine ⟨⟨_, rfl, ?_⟩, ?_, fun y hy => q2 y (List.mem_cons_of_mem _ hy), ?_⟩
      · have c1 := cLc_ok (gi := iE (cVar 2)) (f := aName 5) (t := toB (cCall (φ "_law_part") (cCons (cVar 5) (cCons (cVar 3) (cNil))))) (e := cVar 5) (vs := [5]) (ρ := [some (.int (n : Nat)), some (enc rows), some (.list (fs.map enc)), some (enc x), none, none]) enc (fun t => [some (.int (n : Nat)), some (enc rows), some (.list (fs.map enc)), some (enc x), none, some (enc t)]) (fun t => part t x) enc fs
          (by simp only [bd_ok, sb_ok, tn_nx, tn_rt, tn_bk, tn_ct, lo_some, slo_some, vr0, vrS, ap_var, ap_const, ap_pure, ap_bin, ap_nil, ap_cons, ap_star, ap_tup, ap_lst, ap_cb, ap_isi, ap_rgl, ap_if, ap_not, tru_t, tru_f, ap_or, ap_and, ap_toB, ap_bNot, ap_bAnd, ap_bOr, ap_bCmp, boolO_some', ap_iE, ap_iR1, ap_iR2, ap_iEn, ap_iZip, ap_pN, ap_pS, ap_sl, call_ok, ap_call, callI_ok, ap_callIo, ap_hole, ls0, lsS, ap_bor', borE_int, borE_bool, ap_borT, borT_ok, ap_move, ap_sNil, ap_sPass, ap_seq, ap_asg, ap_asgs, ap_ret, ap_expr, ap_sIf, ap_for, ap_setIx, ap_mut, optE_some, tup0, tup1, tup2, tup3, lst0, lst1, lst2, lst3, aName, aCons, aNil, aTup2, Option.bind_some, Option.map_some, List.set_cons_zero, List.set_cons_succ, List.cons_append, List.nil_append, if_true, if_false, Bool.false_eq_true, if_pos, reduceIte, drawn_l]) rfl rfl (small (by omega)) (fun _ _ => rfl) (fun t ht => by
            have : φ "_law_part" [enc t, enc x] = .ok (.bool (part t x)) .none := by rw [hp]; exact lpart_ok t x (small (Nat.le_trans (q3 t ht) (by omega)))
            simp only [bd_ok, sb_ok, tn_nx, tn_rt, tn_bk, tn_ct, lo_some, slo_some, vr0, vrS, ap_var, ap_const, ap_pure, ap_bin, ap_nil, ap_cons, ap_star, ap_tup, ap_lst, ap_cb, ap_isi, ap_rgl, ap_if, ap_not, tru_t, tru_f, ap_or, ap_and, ap_toB, ap_bNot, ap_bAnd, ap_bOr, ap_bCmp, boolO_some', ap_iE, ap_iR1, ap_iR2, ap_iEn, ap_iZip, ap_pN, ap_pS, ap_sl, call_ok, ap_call, callI_ok, ap_callIo, ap_hole, ls0, lsS, ap_bor', borE_int, borE_bool, ap_borT, borT_ok, ap_move, ap_sNil, ap_sPass, ap_seq, ap_asg, ap_asgs, ap_ret, ap_expr, ap_sIf, ap_for, ap_setIx, ap_mut, optE_some, tup0, tup1, tup2, tup3, lst0, lst1, lst2, lst3, aName, aCons, aNil, aTup2, Option.bind_some, Option.map_some, List.set_cons_zero, List.set_cons_succ, List.cons_append, List.nil_append, if_true, if_false, Bool.false_eq_true, if_pos, reduceIte, this, tru_b]) (fun _ _ _ => by simp only [bd_ok, sb_ok, tn_nx, tn_rt, tn_bk, tn_ct, lo_some, slo_some, vr0, vrS, ap_var, ap_const, ap_pure, ap_bin, ap_nil, ap_cons, ap_star, ap_tup, ap_lst, ap_cb, ap_isi, ap_rgl, ap_if, ap_not, tru_t, tru_f, ap_or, ap_and, ap_toB, ap_bNot, ap_bAnd, ap_bOr, ap_bCmp, boolO_some', ap_iE, ap_iR1, ap_iR2, ap_iEn, ap_iZip, ap_pN, ap_pS, ap_sl, call_ok, ap_call, callI_ok, ap_callIo, ap_hole, ls0, lsS, ap_bor', borE_int, borE_bool, ap_borT, borT_ok, ap_move, ap_sNil, ap_sPass, ap_seq, ap_asg, ap_asgs, ap_ret, ap_expr, ap_sIf, ap_for, ap_setIx, ap_mut, optE_some, tup0, tup1, tup2, tup3, lst0, lst1, lst2, lst3, aName, aCons, aNil, aTup2, Option.bind_some, Option.map_some, List.set_cons_zero, List.set_cons_succ, List.cons_append, List.nil_append, if_true, if_false, Bool.false_eq_true, if_pos, reduceIte]) (fun _ _ => rfl)
        have c2 := borO_ok c1 (lfo_enc (fs.filter fun t => part t x))
        have c3 := cLc_ok (gi := iE (cVar 1)) (f := aName 4) (t := toB (cCall (φ "_law_bars") (cCons (cVar 3) (cCons (cVar 4) (cNil))))) (e := cVar 4) (vs := [4]) (ρ := [some (.int (n : Nat)), some (enc rows), some (.list (fs.map enc)), some (enc x), none, none]) enc (fun r => [some (.int (n : Nat)), some (enc rows), some (.list (fs.map enc)), some (enc x), some (enc r), none]) (fun r => barsT x r) enc rows
          (by simp only [bd_ok, sb_ok, tn_nx, tn_rt, tn_bk, tn_ct, lo_some, slo_some, vr0, vrS, ap_var, ap_const, ap_pure, ap_bin, ap_nil, ap_cons, ap_star, ap_tup, ap_lst, ap_cb, ap_isi, ap_rgl, ap_if, ap_not, tru_t, tru_f, ap_or, ap_and, ap_toB, ap_bNot, ap_bAnd, ap_bOr, ap_bCmp, boolO_some', ap_iE, ap_iR1, ap_iR2, ap_iEn, ap_iZip, ap_pN, ap_pS, ap_sl, call_ok, ap_call, callI_ok, ap_callIo, ap_hole, ls0, lsS, ap_bor', borE_int, borE_bool, ap_borT, borT_ok, ap_move, ap_sNil, ap_sPass, ap_seq, ap_asg, ap_asgs, ap_ret, ap_expr, ap_sIf, ap_for, ap_setIx, ap_mut, optE_some, tup0, tup1, tup2, tup3, lst0, lst1, lst2, lst3, aName, aCons, aNil, aTup2, Option.bind_some, Option.map_some, List.set_cons_zero, List.set_cons_succ, List.cons_append, List.nil_append, if_true, if_false, Bool.false_eq_true, if_pos, reduceIte, hdr]) rfl rfl hrl (fun _ _ => rfl) (fun r hr' => by
            have : φ "_law_bars" [enc x, enc r] = .ok (.bool (barsT x r)) .none := by rw [hb]; exact lbars_ok x r (small (Nat.le_trans hx.1 (by omega))) (fun a ha => (hx.2.2 a ha).1) (hr r hr')
            simp only [bd_ok, sb_ok, tn_nx, tn_rt, tn_bk, tn_ct, lo_some, slo_some, vr0, vrS, ap_var, ap_const, ap_pure, ap_bin, ap_nil, ap_cons, ap_star, ap_tup, ap_lst, ap_cb, ap_isi, ap_rgl, ap_if, ap_not, tru_t, tru_f, ap_or, ap_and, ap_toB, ap_bNot, ap_bAnd, ap_bOr, ap_bCmp, boolO_some', ap_iE, ap_iR1, ap_iR2, ap_iEn, ap_iZip, ap_pN, ap_pS, ap_sl, call_ok, ap_call, callI_ok, ap_callIo, ap_hole, ls0, lsS, ap_bor', borE_int, borE_bool, ap_borT, borT_ok, ap_move, ap_sNil, ap_sPass, ap_seq, ap_asg, ap_asgs, ap_ret, ap_expr, ap_sIf, ap_for, ap_setIx, ap_mut, optE_some, tup0, tup1, tup2, tup3, lst0, lst1, lst2, lst3, aName, aCons, aNil, aTup2, Option.bind_some, Option.map_some, List.set_cons_zero, List.set_cons_succ, List.cons_append, List.nil_append, if_true, if_false, Bool.false_eq_true, if_pos, reduceIte, this, tru_b]) (fun _ _ _ => by simp only [bd_ok, sb_ok, tn_nx, tn_rt, tn_bk, tn_ct, lo_some, slo_some, vr0, vrS, ap_var, ap_const, ap_pure, ap_bin, ap_nil, ap_cons, ap_star, ap_tup, ap_lst, ap_cb, ap_isi, ap_rgl, ap_if, ap_not, tru_t, tru_f, ap_or, ap_and, ap_toB, ap_bNot, ap_bAnd, ap_bOr, ap_bCmp, boolO_some', ap_iE, ap_iR1, ap_iR2, ap_iEn, ap_iZip, ap_pN, ap_pS, ap_sl, call_ok, ap_call, callI_ok, ap_callIo, ap_hole, ls0, lsS, ap_bor', borE_int, borE_bool, ap_borT, borT_ok, ap_move, ap_sNil, ap_sPass, ap_seq, ap_asg, ap_asgs, ap_ret, ap_expr, ap_sIf, ap_for, ap_setIx, ap_mut, optE_some, tup0, tup1, tup2, tup3, lst0, lst1, lst2, lst3, aName, aCons, aNil, aTup2, Option.bind_some, Option.map_some, List.set_cons_zero, List.set_cons_succ, List.cons_append, List.nil_append, if_true, if_false, Bool.false_eq_true, if_pos, reduceIte]) (fun _ _ => rfl)
        have e1 := hEq_nil (α := List Int) (by decide) (rows.filter fun r => barsT x r)
        have e2 := hEq_nil (α := Say) (by decide) (fs.filter fun t => part t x)
        rw [filter_nil_any] at e1 e2
        simp only [bd_ok, sb_ok, tn_nx, tn_rt, tn_bk, tn_ct, lo_some, slo_some, vr0, vrS, ap_var, ap_const, ap_pure, ap_bin, ap_nil, ap_cons, ap_star, ap_tup, ap_lst, ap_cb, ap_isi, ap_rgl, ap_if, ap_not, tru_t, tru_f, ap_or, ap_and, ap_toB, ap_bNot, ap_bAnd, ap_bOr, ap_bCmp, boolO_some', ap_iE, ap_iR1, ap_iR2, ap_iEn, ap_iZip, ap_pN, ap_pS, ap_sl, call_ok, ap_call, callI_ok, ap_callIo, ap_hole, ls0, lsS, ap_bor', borE_int, borE_bool, ap_borT, borT_ok, ap_move, ap_sNil, ap_sPass, ap_seq, ap_asg, ap_asgs, ap_ret, ap_expr, ap_sIf, ap_for, ap_setIx, ap_mut, optE_some, tup0, tup1, tup2, tup3, lst0, lst1, lst2, lst3, aName, aCons, aNil, aTup2, Option.bind_some, Option.map_some, List.set_cons_zero, List.set_cons_succ, List.cons_append, List.nil_append, if_true, if_false, Bool.false_eq_true, if_pos, reduceIte, c3, e1]
        unfold stepL
        cases e3 : rows.any (fun r => barsT x r) with
        | true => simp only [bd_ok, sb_ok, tn_nx, tn_rt, tn_bk, tn_ct, lo_some, slo_some, vr0, vrS, ap_var, ap_const, ap_pure, ap_bin, ap_nil, ap_cons, ap_star, ap_tup, ap_lst, ap_cb, ap_isi, ap_rgl, ap_if, ap_not, tru_t, tru_f, ap_or, ap_and, ap_toB, ap_bNot, ap_bAnd, ap_bOr, ap_bCmp, boolO_some', ap_iE, ap_iR1, ap_iR2, ap_iEn, ap_iZip, ap_pN, ap_pS, ap_sl, call_ok, ap_call, callI_ok, ap_callIo, ap_hole, ls0, lsS, ap_bor', borE_int, borE_bool, ap_borT, borT_ok, ap_move, ap_sNil, ap_sPass, ap_seq, ap_asg, ap_asgs, ap_ret, ap_expr, ap_sIf, ap_for, ap_setIx, ap_mut, optE_some, tup0, tup1, tup2, tup3, lst0, lst1, lst2, lst3, aName, aCons, aNil, aTup2, Option.bind_some, Option.map_some, List.set_cons_zero, List.set_cons_succ, List.cons_append, List.nil_append, if_true, if_false, Bool.false_eq_true, if_pos, reduceIte, Bool.not_true, Bool.and_false]
        | false =>
          simp only [bd_ok, sb_ok, tn_nx, tn_rt, tn_bk, tn_ct, lo_some, slo_some, vr0, vrS, ap_var, ap_const, ap_pure, ap_bin, ap_nil, ap_cons, ap_star, ap_tup, ap_lst, ap_cb, ap_isi, ap_rgl, ap_if, ap_not, tru_t, tru_f, ap_or, ap_and, ap_toB, ap_bNot, ap_bAnd, ap_bOr, ap_bCmp, boolO_some', ap_iE, ap_iR1, ap_iR2, ap_iEn, ap_iZip, ap_pN, ap_pS, ap_sl, call_ok, ap_call, callI_ok, ap_callIo, ap_hole, ls0, lsS, ap_bor', borE_int, borE_bool, ap_borT, borT_ok, ap_move, ap_sNil, ap_sPass, ap_seq, ap_asg, ap_asgs, ap_ret, ap_expr, ap_sIf, ap_for, ap_setIx, ap_mut, optE_some, tup0, tup1, tup2, tup3, lst0, lst1, lst2, lst3, aName, aCons, aNil, aTup2, Option.bind_some, Option.map_some, List.set_cons_zero, List.set_cons_succ, List.cons_append, List.nil_append, if_true, if_false, Bool.false_eq_true, if_pos, reduceIte, Bool.not_false, c2, e2, Bool.and_true]
          cases e4 : fs.any (fun t => part t x) with
          | true => simp only [bd_ok, sb_ok, tn_nx, tn_rt, tn_bk, tn_ct, lo_some, slo_some, vr0, vrS, ap_var, ap_const, ap_pure, ap_bin, ap_nil, ap_cons, ap_star, ap_tup, ap_lst, ap_cb, ap_isi, ap_rgl, ap_if, ap_not, tru_t, tru_f, ap_or, ap_and, ap_toB, ap_bNot, ap_bAnd, ap_bOr, ap_bCmp, boolO_some', ap_iE, ap_iR1, ap_iR2, ap_iEn, ap_iZip, ap_pN, ap_pS, ap_sl, call_ok, ap_call, callI_ok, ap_callIo, ap_hole, ls0, lsS, ap_bor', borE_int, borE_bool, ap_borT, borT_ok, ap_move, ap_sNil, ap_sPass, ap_seq, ap_asg, ap_asgs, ap_ret, ap_expr, ap_sIf, ap_for, ap_setIx, ap_mut, optE_some, tup0, tup1, tup2, tup3, lst0, lst1, lst2, lst3, aName, aCons, aNil, aTup2, Option.bind_some, Option.map_some, List.set_cons_zero, List.set_cons_succ, List.cons_append, List.nil_append, if_true, if_false, Bool.false_eq_true, if_pos, reduceIte, Bool.not_true]
          | false =>
            simp only [bd_ok, sb_ok, tn_nx, tn_rt, tn_bk, tn_ct, lo_some, slo_some, vr0, vrS, ap_var, ap_const, ap_pure, ap_bin, ap_nil, ap_cons, ap_star, ap_tup, ap_lst, ap_cb, ap_isi, ap_rgl, ap_if, ap_not, tru_t, tru_f, ap_or, ap_and, ap_toB, ap_bNot, ap_bAnd, ap_bOr, ap_bCmp, boolO_some', ap_iE, ap_iR1, ap_iR2, ap_iEn, ap_iZip, ap_pN, ap_pS, ap_sl, call_ok, ap_call, callI_ok, ap_callIo, ap_hole, ls0, lsS, ap_bor', borE_int, borE_bool, ap_borT, borT_ok, ap_move, ap_sNil, ap_sPass, ap_seq, ap_asg, ap_asgs, ap_ret, ap_expr, ap_sIf, ap_for, ap_setIx, ap_mut, optE_some, tup0, tup1, tup2, tup3, lst0, lst1, lst2, lst3, aName, aCons, aNil, aTup2, Option.bind_some, Option.map_some, List.set_cons_zero, List.set_cons_succ, List.cons_append, List.nil_append, if_true, if_false, Bool.false_eq_true, if_pos, reduceIte, Bool.not_false, app_ok (ds := fs.map enc) (d := enc x) (by rw [List.length_map]; exact Nat.lt_of_lt_of_le (show fs.length < 1594324 by omega) (by decide))]
            rw [List.map_append]
            rfl
      · show (stepL rows fs x).length + xs.length ≤ 1594323
        unfold stepL
        split
        · rw [List.length_append, List.length_singleton]; omega
        · omega
      · intro y hy
        have hy : y ∈ stepL rows fs x := hy
        unfold stepL at hy
        split at hy
        · rcases List.mem_append.mp hy with hy | hy
          · exact q3 y hy
          · rw [List.mem_singleton.mp hy]; exact hx.1
        · exact q3 y hy) (AS n) ([], none) ⟨by
          show 0 + (AS n).length ≤ 1594323
          rw [AS_len, Nat.zero_add]; exact three_le hn, hA, fun _ h => by cases h⟩
  have fold : ((AS n).foldl (fun (s : List Say × Option Dat) x => (stepL rows s.1 x, some (enc x))) ([], none)).1 = LSt n rows := by
    unfold LSt
    have : ∀ (l : List Say) (s : List Say) (o : Option Dat), (l.foldl (fun (s : List Say × Option Dat) x => (stepL rows s.1 x, some (enc x))) (s, o)).1 = l.foldl (stepL rows) s := by
      intro l
      induction l with
      | nil => intro s o; rfl
      | cons x l ih => intro s o; rw [List.foldl_cons, List.foldl_cons]; exact ih _ _
    exact this _ _ _
  obtain ⟨s, hs⟩ : ∃ s, s = (AS n).foldl (fun (s : List Say × Option Dat) x => (stepL rows s.1 x, some (enc x))) ([], none) := ⟨_, rfl⟩
  rw [← hs] at loop fold
  refine runG_rt (ρ := [some (.int (n : Nat)), some (enc rows), some (.list ((LSt n rows).map enc)), s.2, none, none]) rfl ?_
  show b_lleast φ [some (.int (n : Nat)), some (enc rows), none, none, none, none] = _
  unfold b_lleast
  rw [fold] at loop
  dsimp only at loop
  have e0 : [some (PyData.int (n : Nat)), some (enc rows), some (PyData.list (([] : List Say).map enc)), none, none, none] = [some (PyData.int (n : Nat)), some (enc rows), some (PyData.list []), none, none, none] := rfl
  rw [e0] at loop
  have hso := borO_ok (g := cCB hSorted1 (cCons (cVar 2) (cNil))) (ρ := [some (.int (n : Nat)), some (enc rows), some (.list ((LSt n rows).map enc)), s.2, none, none]) (d := .list ((least n rows).map enc)) (by simp only [bd_ok, sb_ok, tn_nx, tn_rt, tn_bk, tn_ct, lo_some, slo_some, vr0, vrS, ap_var, ap_const, ap_pure, ap_bin, ap_nil, ap_cons, ap_star, ap_tup, ap_lst, ap_cb, ap_isi, ap_rgl, ap_if, ap_not, tru_t, tru_f, ap_or, ap_and, ap_toB, ap_bNot, ap_bAnd, ap_bOr, ap_bCmp, boolO_some', ap_iE, ap_iR1, ap_iR2, ap_iEn, ap_iZip, ap_pN, ap_pS, ap_sl, call_ok, ap_call, callI_ok, ap_callIo, ap_hole, ls0, lsS, ap_bor', borE_int, borE_bool, ap_borT, borT_ok, ap_move, ap_sNil, ap_sPass, ap_seq, ap_asg, ap_asgs, ap_ret, ap_expr, ap_sIf, ap_for, ap_setIx, ap_mut, optE_some, tup0, tup1, tup2, tup3, lst0, lst1, lst2, lst3, aName, aCons, aNil, aTup2, Option.bind_some, Option.map_some, List.set_cons_zero, List.set_cons_succ, List.cons_append, List.nil_append, if_true, if_false, Bool.false_eq_true, if_pos, reduceIte, LSt_sortable hn rows]; rfl) (lfo_enc _)
  have ht : hTuple [.list ((least n rows).map enc)] = some (enc (least n rows)) := rfl
  simp only [bd_ok, sb_ok, tn_nx, tn_rt, tn_bk, tn_ct, lo_some, slo_some, vr0, vrS, ap_var, ap_const, ap_pure, ap_bin, ap_nil, ap_cons, ap_star, ap_tup, ap_lst, ap_cb, ap_isi, ap_rgl, ap_if, ap_not, tru_t, tru_f, ap_or, ap_and, ap_toB, ap_bNot, ap_bAnd, ap_bOr, ap_bCmp, boolO_some', ap_iE, ap_iR1, ap_iR2, ap_iEn, ap_iZip, ap_pN, ap_pS, ap_sl, call_ok, ap_call, callI_ok, ap_callIo, ap_hole, ls0, lsS, ap_bor', borE_int, borE_bool, ap_borT, borT_ok, ap_move, ap_sNil, ap_sPass, ap_seq, ap_asg, ap_asgs, ap_ret, ap_expr, ap_sIf, ap_for, ap_setIx, ap_mut, optE_some, tup0, tup1, tup2, tup3, lst0, lst1, lst2, lst3, aName, aCons, aNil, aTup2, Option.bind_some, Option.map_some, List.set_cons_zero, List.set_cons_succ, List.cons_append, List.nil_append, if_true, if_false, Bool.false_eq_true, if_pos, reduceIte, he n hn, drawn_l, loop, hso, ht]
end L2.PV
set_option Elab.async false
set_option linter.all false
set_option maxRecDepth 100000
set_option maxHeartbeats 4000000
namespace L2.PV
open PySem PySem.Spec PyProof.Rows
open Enc (enc)
/-! ### quotas -/
abbrev Quo := List Int
def at0 (q : Quo) (i : Int) : Int := q.getD i.toNat 0
/-- what the winners may leave out -/
def lo (size : Int) (q : Quo) (s : Say) : Int := (s.map fun a => if a.2 = 1 then size - at0 q a.1 else at0 q a.1 - 1).sum
def QS (size : Int) (q : Quo) (L : List Say) : Bool := !L.any fun s => decide (size ≤ lo size q s)
theorem ix_quo {q : Quo} {i : Int} (h0 : 0 ≤ i) (h1 : i < q.length) : hIx (enc q) (.int i) = some (.int (at0 q i)) := ix_row h0 h1
/-- the sum of one saying, wherever the names lie -/
theorem lo_lc {n : Nat} (size : Int) (q : Quo) (s : Say) (hs : s.length ≤ lineN) (h : ∀ a ∈ s, 0 ≤ a.1 ∧ a.1 < n) (hq : q.length = n) {i0 i1 i2 j k : Nat} {ρ : Env} (ρd : Int × Int → Env) {ρw : Env}
    (hd : cVar i2 ρ = .ok (enc s) ρ) (hw : wipeE ρ [j, k] = ρw) (hb : backE ρ ρw [j, k] = ρ) (h1 : ∀ a : Int × Int, aTup 2 (aCons (aName j) (aCons (aName k) (aNil))) (enc a) ρw = some (ρd a))
    (e0 : ∀ a, cVar i0 (ρd a) = .ok (.int size) (ρd a)) (e1 : ∀ a, cVar i1 (ρd a) = .ok (enc q) (ρd a)) (ej : ∀ a : Int × Int, cVar j (ρd a) = .ok (.int a.1) (ρd a)) (ek : ∀ a : Int × Int, cVar k (ρd a) = .ok (.int a.2) (ρd a)) (h4 : ∀ a, wipeE (ρd a) [j, k] = ρw) :
    (cLc (iE (cVar i2)) (aTup 2 (aCons (aName j) (aCons (aName k) (aNil)))) (M.pure true) (cIf (bCmp hEq (cVar k) (cConst (.int 1))) (cBin hSub (cVar i0) (cBin hIx (cVar i1) (cVar j))) (cBin hSub (cBin hIx (cVar i1) (cVar j)) (cConst (.int 1)))) [j, k]) ρ = .ok (.list (s.map fun a => .int (if a.2 = 1 then size - at0 q a.1 else at0 q a.1 - 1))) ρ := by
  refine cLc_map enc ρd _ s ?_ hw hb hs (fun a _ => h1 a) (fun a m => ?_) (fun a _ => h4 a)
  · have : drawn (enc s) = some (s.map enc) := rfl
    rw [ap_iE, hd, bd_ok, this]
    rfl
  · have hx := ix_quo (q := q) (h a m).1 (by rw [hq]; exact (h a m).2)
    rw [ap_if, ap_bCmp, ek a, bd_ok, ap_const, bd_ok, eq_ii, boolO_some', lo_some, bd_ok]
    by_cases c : a.2 = 1
    · rw [decide_eq_true c, if_pos rfl, if_pos c, ap_bin, e0 a, bd_ok, ap_bin, e1 a, bd_ok, ej a, bd_ok, hx, lo_some, bd_ok, sub_ii, lo_some]
    · rw [decide_eq_false c, if_neg Bool.false_ne_true, if_neg c, ap_bin, ap_bin, e1 a, bd_ok, ej a, bd_ok, hx, lo_some, bd_ok, ap_const, bd_ok, sub_ii, lo_some]
def b_left (φ : Str → FnSem) : MS := sSeq (sRet (cCB hSum (cCons (cLc (iE (cVar 2)) (aTup 2 (aCons (aName 3) (aCons (aName 4) (aNil)))) (M.pure true) (cIf (bCmp hEq (cVar 4) (cConst (.int 1))) (cBin hSub (cVar 0) (cBin hIx (cVar 1) (cVar 3))) (cBin hSub (cBin hIx (cVar 1) (cVar 3)) (cConst (.int 1)))) [3, 4]) (cNil)))) (sNil)
theorem left_ok {φ : Str → FnSem} {n : Nat} (size : Int) (q : Quo) (s : Say) (hs : s.length ≤ lineN) (h : ∀ a ∈ s, 0 ≤ a.1 ∧ a.1 < n) (hq : q.length = n) : runG ⟨3, none, false⟩ 5 (b_left φ) [.int size, enc q, enc s] = .ok (.int (lo size q s)) .none := by
  refine runG_rt (ρ := [some (.int size), some (enc q), some (enc s), none, none]) rfl ?_
  show b_left φ [some (.int size), some (enc q), some (enc s), none, none] = _
  unfold b_left
  have hc := lo_lc (n := n) size q s hs h hq (i0 := 0) (i1 := 1) (i2 := 2) (j := 3) (k := 4) (ρ := [some (.int size), some (enc q), some (enc s), none, none]) (fun a => [some (.int size), some (enc q), some (enc s), some (.int a.1), some (.int a.2)]) rfl rfl rfl (fun _ => rfl) (fun _ => rfl) (fun _ => rfl) (fun _ => rfl) (fun _ => rfl) (fun _ => rfl)
  simp only [bd_ok, sb_ok, tn_nx, tn_rt, tn_bk, tn_ct, lo_some, slo_some, vr0, vrS, ap_var, ap_const, ap_pure, ap_bin, ap_nil, ap_cons, ap_star, ap_tup, ap_lst, ap_cb, ap_isi, ap_rgl, ap_if, ap_not, tru_t, tru_f, ap_or, ap_and, ap_toB, ap_bNot, ap_bAnd, ap_bOr, ap_bCmp, boolO_some', ap_iE, ap_iR1, ap_iR2, ap_iEn, ap_iZip, ap_pN, ap_pS, ap_sl, call_ok, ap_call, callI_ok, ap_callIo, ap_hole, ls0, lsS, ap_bor', borE_int, borE_bool, ap_borT, borT_ok, ap_move, ap_sNil, ap_sPass, ap_seq, ap_asg, ap_asgs, ap_ret, ap_expr, ap_sIf, ap_for, ap_setIx, ap_mut, optE_some, tup0, tup1, tup2, tup3, lst0, lst1, lst2, lst3, aName, aCons, aNil, aTup2, Option.bind_some, Option.map_some, List.set_cons_zero, List.set_cons_succ, List.cons_append, List.nil_append, if_true, if_false, Bool.false_eq_true, if_pos, reduceIte, hc, sum_map]
  rfl
def b_breach (φ : Str → FnSem) : MS := sSeq (sAsg (cLc (iE (cCall (φ "least_sayings") (cCons (cVar 0) (cCons (cVar 1) (cNil))))) (aName 5) (bCmp hGe (cCall (φ "left_over") (cCons (cVar 2) (cCons (cVar 3) (cCons (cVar 5) (cNil))))) (cVar 2)) (cVar 5) [5]) (aName 4)) (sSeq (sRet (cIf (bCmp hGt (cCB hLen (cCons (cVar 4) (cNil))) (cConst (.int 0))) (cBin hIx (cVar 4) (cConst (.int 0))) (cConst (.none)))) (sNil))
def b_qsound (φ : Str → FnSem) : MS := sSeq (sRet (cBin hIs (cCall (φ "quota_breach") (cCons (cVar 0) (cCons (cVar 1) (cCons (cVar 2) (cCons (cVar 3) (cNil)))))) (cConst (.none)))) (sNil)
/-- sayings about n questions -/
def LOk (n : Nat) (L : List Say) : Prop := L.length ≤ lineN ∧ ∀ s ∈ L, s.length ≤ lineN ∧ ∀ a ∈ s, 0 ≤ a.1 ∧ a.1 < n
theorem qsound_ok {φ ψ χ : Str → FnSem} {n : Nat} {d : Dat} {L : List Say} (hL : LOk n L) (hl : ψ "least_sayings" [.int (n : Nat), d] = .ok (enc L) .none) (hlo : ψ "left_over" = runG ⟨3, none, false⟩ 5 (b_left χ)) (hbr : φ "quota_breach" = runG ⟨4, none, false⟩ 6 (b_breach ψ)) (size : Int) (q : Quo) (hq : q.length = n) :
    runG ⟨4, none, false⟩ 4 (b_qsound φ) [.int (n : Nat), d, .int size, enc q] = .ok (.bool (QS size q L)) .none := by
  have br : ∃ x, φ "quota_breach" [.int (n : Nat), d, .int size, enc q] = .ok x .none ∧ isNone x = QS size q L := by
    rw [hbr]
    have hc := cLc_ok (gi := iE (cCall (ψ "least_sayings") (cCons (cVar 0) (cCons (cVar 1) (cNil))))) (f := aName 5) (t := bCmp hGe (cCall (ψ "left_over") (cCons (cVar 2) (cCons (cVar 3) (cCons (cVar 5) (cNil))))) (cVar 2)) (e := cVar 5) (vs := [5]) (ρ := [some (.int (n : Nat)), some d, some (.int size), some (enc q), none, none]) (enc (α := Say)) (fun s => [some (.int (n : Nat)), some d, some (.int size), some (enc q), none, some (enc s)]) (fun s => decide (size ≤ lo size q s)) enc L
      (by have : drawn (enc L) = some (L.map enc) := rfl
          simp only [bd_ok, sb_ok, tn_nx, tn_rt, tn_bk, tn_ct, lo_some, slo_some, vr0, vrS, ap_var, ap_const, ap_pure, ap_bin, ap_nil, ap_cons, ap_star, ap_tup, ap_lst, ap_cb, ap_isi, ap_rgl, ap_if, ap_not, tru_t, tru_f, ap_or, ap_and, ap_toB, ap_bNot, ap_bAnd, ap_bOr, ap_bCmp, boolO_some', ap_iE, ap_iR1, ap_iR2, ap_iEn, ap_iZip, ap_pN, ap_pS, ap_sl, call_ok, ap_call, callI_ok, ap_callIo, ap_hole, ls0, lsS, ap_bor', borE_int, borE_bool, ap_borT, borT_ok, ap_move, ap_sNil, ap_sPass, ap_seq, ap_asg, ap_asgs, ap_ret, ap_expr, ap_sIf, ap_for, ap_setIx, ap_mut, optE_some, tup0, tup1, tup2, tup3, lst0, lst1, lst2, lst3, aName, aCons, aNil, aTup2, Option.bind_some, Option.map_some, List.set_cons_zero, List.set_cons_succ, List.cons_append, List.nil_append, if_true, if_false, Bool.false_eq_true, if_pos, reduceIte, hl, this]) rfl rfl hL.1 (fun _ _ => rfl) (fun s m => by
        have : ψ "left_over" [.int size, enc q, enc s] = .ok (.int (lo size q s)) .none := by rw [hlo]; exact left_ok (n := n) size q s (hL.2 s m).1 (hL.2 s m).2 hq
        simp only [bd_ok, sb_ok, tn_nx, tn_rt, tn_bk, tn_ct, lo_some, slo_some, vr0, vrS, ap_var, ap_const, ap_pure, ap_bin, ap_nil, ap_cons, ap_star, ap_tup, ap_lst, ap_cb, ap_isi, ap_rgl, ap_if, ap_not, tru_t, tru_f, ap_or, ap_and, ap_toB, ap_bNot, ap_bAnd, ap_bOr, ap_bCmp, boolO_some', ap_iE, ap_iR1, ap_iR2, ap_iEn, ap_iZip, ap_pN, ap_pS, ap_sl, call_ok, ap_call, callI_ok, ap_callIo, ap_hole, ls0, lsS, ap_bor', borE_int, borE_bool, ap_borT, borT_ok, ap_move, ap_sNil, ap_sPass, ap_seq, ap_asg, ap_asgs, ap_ret, ap_expr, ap_sIf, ap_for, ap_setIx, ap_mut, optE_some, tup0, tup1, tup2, tup3, lst0, lst1, lst2, lst3, aName, aCons, aNil, aTup2, Option.bind_some, Option.map_some, List.set_cons_zero, List.set_cons_succ, List.cons_append, List.nil_append, if_true, if_false, Bool.false_eq_true, if_pos, reduceIte, this, ge_ii]) (fun _ _ _ => by simp only [bd_ok, sb_ok, tn_nx, tn_rt, tn_bk, tn_ct, lo_some, slo_some, vr0, vrS, ap_var, ap_const, ap_pure, ap_bin, ap_nil, ap_cons, ap_star, ap_tup, ap_lst, ap_cb, ap_isi, ap_rgl, ap_if, ap_not, tru_t, tru_f, ap_or, ap_and, ap_toB, ap_bNot, ap_bAnd, ap_bOr, ap_bCmp, boolO_some', ap_iE, ap_iR1, ap_iR2, ap_iEn, ap_iZip, ap_pN, ap_pS, ap_sl, call_ok, ap_call, callI_ok, ap_callIo, ap_hole, ls0, lsS, ap_bor', borE_int, borE_bool, ap_borT, borT_ok, ap_move, ap_sNil, ap_sPass, ap_seq, ap_asg, ap_asgs, ap_ret, ap_expr, ap_sIf, ap_for, ap_setIx, ap_mut, optE_some, tup0, tup1, tup2, tup3, lst0, lst1, lst2, lst3, aName, aCons, aNil, aTup2, Option.bind_some, Option.map_some, List.set_cons_zero, List.set_cons_succ, List.cons_append, List.nil_append, if_true, if_false, Bool.false_eq_true, if_pos, reduceIte]) (fun _ _ => rfl)
    obtain ⟨B, hB⟩ : ∃ B, B = L.filter fun s => decide (size ≤ lo size q s) := ⟨_, rfl⟩
    rw [← hB] at hc
    have hQ : QS size q L = B.isEmpty := by
      rw [hB]
      unfold QS
      clear hc hB hL hl B
      induction L with
      | nil => rfl
      | cons s L ih =>
        rw [List.any_cons, List.filter_cons]
        cases e : decide (size ≤ lo size q s) with
        | true => simp
        | false => simpa using ih
    cases B with
    | nil =>
      refine ⟨.none, runG_rt (ρ := [some (.int (n : Nat)), some d, some (.int size), some (enc q), some (.list []), none]) rfl ?_, by rw [hQ]; rfl⟩
      show b_breach ψ [some (.int (n : Nat)), some d, some (.int size), some (enc q), none, none] = _
      unfold b_breach
      have hc : _ = R.ok (PyData.list []) _ := hc
      simp only [bd_ok, sb_ok, tn_nx, tn_rt, tn_bk, tn_ct, lo_some, slo_some, vr0, vrS, ap_var, ap_const, ap_pure, ap_bin, ap_nil, ap_cons, ap_star, ap_tup, ap_lst, ap_cb, ap_isi, ap_rgl, ap_if, ap_not, tru_t, tru_f, ap_or, ap_and, ap_toB, ap_bNot, ap_bAnd, ap_bOr, ap_bCmp, boolO_some', ap_iE, ap_iR1, ap_iR2, ap_iEn, ap_iZip, ap_pN, ap_pS, ap_sl, call_ok, ap_call, callI_ok, ap_callIo, ap_hole, ls0, lsS, ap_bor', borE_int, borE_bool, ap_borT, borT_ok, ap_move, ap_sNil, ap_sPass, ap_seq, ap_asg, ap_asgs, ap_ret, ap_expr, ap_sIf, ap_for, ap_setIx, ap_mut, optE_some, tup0, tup1, tup2, tup3, lst0, lst1, lst2, lst3, aName, aCons, aNil, aTup2, Option.bind_some, Option.map_some, List.set_cons_zero, List.set_cons_succ, List.cons_append, List.nil_append, if_true, if_false, Bool.false_eq_true, if_pos, reduceIte, hc, len_l, gt_ii]
      rfl
    | cons s B =>
      refine ⟨enc s, runG_rt (ρ := [some (.int (n : Nat)), some d, some (.int size), some (enc q), some (.list ((s :: B).map enc)), none]) rfl ?_, by rw [hQ]; rfl⟩
      show b_breach ψ [some (.int (n : Nat)), some d, some (.int size), some (enc q), none, none] = _
      unfold b_breach
      have hx : hIx (.list ((s :: B).map enc)) (.int 0) = some (enc s) := ix_list (by decide) rfl
      have hg : decide ((0 : Int) < (((s :: B).map (enc (α := Say))).length : Nat)) = true := decide_eq_true (by rw [List.length_map, List.length_cons]; omega)
      simp only [bd_ok, sb_ok, tn_nx, tn_rt, tn_bk, tn_ct, lo_some, slo_some, vr0, vrS, ap_var, ap_const, ap_pure, ap_bin, ap_nil, ap_cons, ap_star, ap_tup, ap_lst, ap_cb, ap_isi, ap_rgl, ap_if, ap_not, tru_t, tru_f, ap_or, ap_and, ap_toB, ap_bNot, ap_bAnd, ap_bOr, ap_bCmp, boolO_some', ap_iE, ap_iR1, ap_iR2, ap_iEn, ap_iZip, ap_pN, ap_pS, ap_sl, call_ok, ap_call, callI_ok, ap_callIo, ap_hole, ls0, lsS, ap_bor', borE_int, borE_bool, ap_borT, borT_ok, ap_move, ap_sNil, ap_sPass, ap_seq, ap_asg, ap_asgs, ap_ret, ap_expr, ap_sIf, ap_for, ap_setIx, ap_mut, optE_some, tup0, tup1, tup2, tup3, lst0, lst1, lst2, lst3, aName, aCons, aNil, aTup2, Option.bind_some, Option.map_some, List.set_cons_zero, List.set_cons_succ, List.cons_append, List.nil_append, if_true, if_false, Bool.false_eq_true, if_pos, reduceIte, hc, len_l, gt_ii, hg, hx]
  obtain ⟨x, hx, hn⟩ := br
  refine runG_rt (ρ := [some (.int (n : Nat)), some d, some (.int size), some (enc q)]) rfl ?_
  show b_qsound φ [some (.int (n : Nat)), some d, some (.int size), some (enc q)] = _
  unfold b_qsound
  simp only [bd_ok, sb_ok, tn_nx, tn_rt, tn_bk, tn_ct, lo_some, slo_some, vr0, vrS, ap_var, ap_const, ap_pure, ap_bin, ap_nil, ap_cons, ap_star, ap_tup, ap_lst, ap_cb, ap_isi, ap_rgl, ap_if, ap_not, tru_t, tru_f, ap_or, ap_and, ap_toB, ap_bNot, ap_bAnd, ap_bOr, ap_bCmp, boolO_some', ap_iE, ap_iR1, ap_iR2, ap_iEn, ap_iZip, ap_pN, ap_pS, ap_sl, call_ok, ap_call, callI_ok, ap_callIo, ap_hole, ls0, lsS, ap_bor', borE_int, borE_bool, ap_borT, borT_ok, ap_move, ap_sNil, ap_sPass, ap_seq, ap_asg, ap_asgs, ap_ret, ap_expr, ap_sIf, ap_for, ap_setIx, ap_mut, optE_some, tup0, tup1, tup2, tup3, lst0, lst1, lst2, lst3, aName, aCons, aNil, aTup2, Option.bind_some, Option.map_some, List.set_cons_zero, List.set_cons_succ, List.cons_append, List.nil_append, if_true, if_false, Bool.false_eq_true, if_pos, reduceIte, hx, is_n, hn]
def b_sright (φ : Str → FnSem) : MS := sSeq (sRet (cBin hEq (cLc (iE (cVar 2)) (aName 3) (bCmp hGe (cCB hSum (cCons (cLc (iE (cVar 3)) (aTup 2 (aCons (aName 4) (aCons (aName 5) (aNil)))) (M.pure true) (cIf (bCmp hEq (cVar 5) (cConst (.int 1))) (cBin hSub (cVar 0) (cBin hIx (cVar 1) (cVar 4))) (cBin hSub (cBin hIx (cVar 1) (cVar 4)) (cConst (.int 1)))) [4, 5]) (cNil))) (cVar 0)) (cConst (.int 1)) [3]) (cLst (cNil)))) (sNil)
theorem sright_ok {φ : Str → FnSem} {n : Nat} {L : List Say} (hL : LOk n L) (size : Int) (q : Quo) (hq : q.length = n) : runG ⟨3, none, false⟩ 6 (b_sright φ) [.int size, enc q, enc L] = .ok (.bool (QS size q L)) .none := by
  refine runG_rt (ρ := [some (.int size), some (enc q), some (enc L), none, none, none]) rfl ?_
  show b_sright φ [some (.int size), some (enc q), some (enc L), none, none, none] = _
  unfold b_sright
  have hc := cLc_ok (gi := iE (cVar 2)) (f := aName 3) (t := bCmp hGe (cCB hSum (cCons (cLc (iE (cVar 3)) (aTup 2 (aCons (aName 4) (aCons (aName 5) (aNil)))) (M.pure true) (cIf (bCmp hEq (cVar 5) (cConst (.int 1))) (cBin hSub (cVar 0) (cBin hIx (cVar 1) (cVar 4))) (cBin hSub (cBin hIx (cVar 1) (cVar 4)) (cConst (.int 1)))) [4, 5]) (cNil))) (cVar 0)) (e := cConst (.int 1)) (vs := [3]) (ρ := [some (.int size), some (enc q), some (enc L), none, none, none]) (enc (α := Say)) (fun s => [some (.int size), some (enc q), some (enc L), some (enc s), none, none]) (fun s => decide (size ≤ lo size q s)) (fun _ => .int 1) L
    (by have : drawn (enc L) = some (L.map enc) := rfl
        simp only [bd_ok, sb_ok, tn_nx, tn_rt, tn_bk, tn_ct, lo_some, slo_some, vr0, vrS, ap_var, ap_const, ap_pure, ap_bin, ap_nil, ap_cons, ap_star, ap_tup, ap_lst, ap_cb, ap_isi, ap_rgl, ap_if, ap_not, tru_t, tru_f, ap_or, ap_and, ap_toB, ap_bNot, ap_bAnd, ap_bOr, ap_bCmp, boolO_some', ap_iE, ap_iR1, ap_iR2, ap_iEn, ap_iZip, ap_pN, ap_pS, ap_sl, call_ok, ap_call, callI_ok, ap_callIo, ap_hole, ls0, lsS, ap_bor', borE_int, borE_bool, ap_borT, borT_ok, ap_move, ap_sNil, ap_sPass, ap_seq, ap_asg, ap_asgs, ap_ret, ap_expr, ap_sIf, ap_for, ap_setIx, ap_mut, optE_some, tup0, tup1, tup2, tup3, lst0, lst1, lst2, lst3, aName, aCons, aNil, aTup2, Option.bind_some, Option.map_some, List.set_cons_zero, List.set_cons_succ, List.cons_append, List.nil_append, if_true, if_false, Bool.false_eq_true, if_pos, reduceIte, this]) rfl rfl hL.1 (fun _ _ => rfl) (fun s m => by
      have hi := lo_lc (n := n) size q s (hL.2 s m).1 (hL.2 s m).2 hq (i0 := 0) (i1 := 1) (i2 := 3) (j := 4) (k := 5) (ρ := [some (.int size), some (enc q), some (enc L), some (enc s), none, none]) (fun a => [some (.int size), some (enc q), some (enc L), some (enc s), some (.int a.1), some (.int a.2)]) rfl rfl rfl (fun _ => rfl) (fun _ => rfl) (fun _ => rfl) (fun _ => rfl) (fun _ => rfl) (fun _ => rfl)
      simp only [bd_ok, sb_ok, tn_nx, tn_rt, tn_bk, tn_ct, lo_some, slo_some, vr0, vrS, ap_var, ap_const, ap_pure, ap_bin, ap_nil, ap_cons, ap_star, ap_tup, ap_lst, ap_cb, ap_isi, ap_rgl, ap_if, ap_not, tru_t, tru_f, ap_or, ap_and, ap_toB, ap_bNot, ap_bAnd, ap_bOr, ap_bCmp, boolO_some', ap_iE, ap_iR1, ap_iR2, ap_iEn, ap_iZip, ap_pN, ap_pS, ap_sl, call_ok, ap_call, callI_ok, ap_callIo, ap_hole, ls0, lsS, ap_bor', borE_int, borE_bool, ap_borT, borT_ok, ap_move, ap_sNil, ap_sPass, ap_seq, ap_asg, ap_asgs, ap_ret, ap_expr, ap_sIf, ap_for, ap_setIx, ap_mut, optE_some, tup0, tup1, tup2, tup3, lst0, lst1, lst2, lst3, aName, aCons, aNil, aTup2, Option.bind_some, Option.map_some, List.set_cons_zero, List.set_cons_succ, List.cons_append, List.nil_append, if_true, if_false, Bool.false_eq_true, if_pos, reduceIte, hi, sum_map, ge_ii]
      rfl) (fun _ _ _ => by simp only [bd_ok, sb_ok, tn_nx, tn_rt, tn_bk, tn_ct, lo_some, slo_some, vr0, vrS, ap_var, ap_const, ap_pure, ap_bin, ap_nil, ap_cons, ap_star, ap_tup, ap_lst, ap_cb, ap_isi, ap_rgl, ap_if, ap_not, tru_t, tru_f, ap_or, ap_and, ap_toB, ap_bNot, ap_bAnd, ap_bOr, ap_bCmp, boolO_some', ap_iE, ap_iR1, ap_iR2, ap_iEn, ap_iZip, ap_pN, ap_pS, ap_sl, call_ok, ap_call, callI_ok, ap_callIo, ap_hole, ls0, lsS, ap_bor', borE_int, borE_bool, ap_borT, borT_ok, ap_move, ap_sNil, ap_sPass, ap_seq, ap_asg, ap_asgs, ap_ret, ap_expr, ap_sIf, ap_for, ap_setIx, ap_mut, optE_some, tup0, tup1, tup2, tup3, lst0, lst1, lst2, lst3, aName, aCons, aNil, aTup2, Option.bind_some, Option.map_some, List.set_cons_zero, List.set_cons_succ, List.cons_append, List.nil_append, if_true, if_false, Bool.false_eq_true, if_pos, reduceIte]) (fun _ _ => rfl)
  simp only [bd_ok, sb_ok, tn_nx, tn_rt, tn_bk, tn_ct, lo_some, slo_some, vr0, vrS, ap_var, ap_const, ap_pure, ap_bin, ap_nil, ap_cons, ap_star, ap_tup, ap_lst, ap_cb, ap_isi, ap_rgl, ap_if, ap_not, tru_t, tru_f, ap_or, ap_and, ap_toB, ap_bNot, ap_bAnd, ap_bOr, ap_bCmp, boolO_some', ap_iE, ap_iR1, ap_iR2, ap_iEn, ap_iZip, ap_pN, ap_pS, ap_sl, call_ok, ap_call, callI_ok, ap_callIo, ap_hole, ls0, lsS, ap_bor', borE_int, borE_bool, ap_borT, borT_ok, ap_move, ap_sNil, ap_sPass, ap_seq, ap_asg, ap_asgs, ap_ret, ap_expr, ap_sIf, ap_for, ap_setIx, ap_mut, optE_some, tup0, tup1, tup2, tup3, lst0, lst1, lst2, lst3, aName, aCons, aNil, aTup2, Option.bind_some, Option.map_some, List.set_cons_zero, List.set_cons_succ, List.cons_append, List.nil_append, if_true, if_false, Bool.false_eq_true, if_pos, reduceIte, hc, eq_nil_ones]
  have : (L.filter fun s => decide (size ≤ lo size q s)).isEmpty = QS size q L := by
    unfold QS
    clear hc hL
    induction L with
    | nil => rfl
    | cons s L ih =>
      rw [List.any_cons, List.filter_cons]
      cases e : decide (size ≤ lo size q s) with
      | true => simp
      | false => simpa using ih
  rw [this]
/-- the quotas of so many friends -/
def QR (size : Nat) : List Int := (List.range size).map fun (i : Nat) => 1 + (i : Int)
theorem QR_mem {size : Nat} {x : Int} : x ∈ QR size ↔ 1 ≤ x ∧ x ≤ size := by
  unfold QR
  rw [List.mem_map]
  constructor
  · rintro ⟨i, hi, rfl⟩
    have := List.mem_range.mp hi
    omega
  · intro h
    exact ⟨(x - 1).toNat, List.mem_range.mpr (by omega), by omega⟩
theorem QR_len (size : Nat) : (QR size).length = size := by unfold QR; rw [List.length_map, List.length_range]
theorem rg2_QR {size : Nat} (h : size ≤ 1000000) : rg2 [.int 1, .int ((size : Int) + 1)] = some ((QR size).map .int) := by
  unfold rg2
  dsimp only
  rw [if_pos ⟨⟨by omega, by omega⟩, by omega, by omega⟩]
  have e : ((size : Int) + 1 - 1).toNat = size := by omega
  rw [e]
  unfold rangeD QR
  rw [List.map_map]
  rfl
theorem rgD_QR {size : Nat} (h : size ≤ 1000000) : rgD [.int 1, .int ((size : Int) + 1)] = some ((QR size).map .int) := by
  unfold rgD
  dsimp only
  have e : ((size : Int) + 1 - 1).toNat = size := by omega
  rw [e, if_pos ⟨by omega, by omega, by omega, by omega, Nat.le_trans h (by decide)⟩]
  unfold rangeD QR
  rw [List.map_map]
  rfl
def nextQ (size : Nat) (qs : List Quo) : List Quo := qs.flatMap fun q => (QR size).map fun x => q ++ [x]
def EVQ (size n : Nat) : List Quo := (List.range n).foldl (fun qs _ => nextQ size qs) [[]]
theorem EVQ_succ (size n : Nat) : EVQ size (n + 1) = nextQ size (EVQ size n) := by unfold EVQ; rw [List.range_succ, List.foldl_append]; rfl
theorem EVQ_mem (size : Nat) : ∀ n : Nat, ∀ q ∈ EVQ size n, q.length = n ∧ ∀ x ∈ q, 1 ≤ x ∧ x ≤ size
  | 0, q, h => by
    have : q = [] := by simpa [EVQ] using h
    subst this
    exact ⟨rfl, fun _ h => by cases h⟩
  | n + 1, q, h => by
    rw [EVQ_succ, nextQ] at h
    obtain ⟨p, hp, hq⟩ := List.mem_flatMap.mp h
    obtain ⟨x, hx, rfl⟩ := List.mem_map.mp hq
    obtain ⟨h1, h2⟩ := EVQ_mem size n p hp
    refine ⟨by rw [List.length_append, h1]; rfl, fun y hy => ?_⟩
    rcases List.mem_append.mp hy with hy | hy
    · exact h2 y hy
    · rw [List.mem_singleton.mp hy]; exact QR_mem.mp hx
theorem nextQ_len (size : Nat) (qs : List Quo) : (nextQ size qs).length = qs.length * size := by
  unfold nextQ
  induction qs with
  | nil => simp
  | cons q qs ih => rw [List.flatMap_cons, List.length_append, ih, List.length_map, QR_len, List.length_cons, Nat.succ_mul, Nat.add_comm]
end L2.PV
set_option Elab.async false
set_option linter.all false
set_option maxRecDepth 100000
set_option maxHeartbeats 4000000
namespace L2.PV
open PySem PySem.Spec PyProof.Rows
open Enc (enc)
def RoomQ (xs : List Nat) (s : List Quo × Option Dat) : Prop := s.1.length * 3 ^ xs.length ≤ 1594323 ∧ ∀ r ∈ s.1, r.length + xs.length ≤ 13
theorem roomq_len {k : Nat} {ks : List Nat} {s : List Quo × Option Dat} (q : RoomQ (k :: ks) s) : 3 * s.1.length ≤ 1594323 := by
  have q1 := q.1
  rw [List.length_cons, Nat.pow_succ] at q1
  have hpos : 0 < 3 ^ ks.length := Nat.pow_pos (by decide)
  refine Nat.le_trans ?_ q1
  rw [Nat.mul_comm (3 ^ ks.length) 3, ← Nat.mul_assoc, Nat.mul_comm s.1.length 3]
  exact Nat.le_mul_of_pos_right _ hpos
theorem roomq_next {k size : Nat} {ks : List Nat} {s : List Quo × Option Dat} (hs : size ≤ 3) (q : RoomQ (k :: ks) s) (o : Option Dat) : RoomQ ks (nextQ size s.1, o) := by
  obtain ⟨q1, q2⟩ := q
  rw [List.length_cons, Nat.pow_succ] at q1
  refine ⟨?_, fun r hr => ?_⟩
  · show (nextQ size s.1).length * 3 ^ ks.length ≤ 1594323
    rw [nextQ_len]
    refine Nat.le_trans ?_ q1
    rw [Nat.mul_comm (3 ^ ks.length) 3, ← Nat.mul_assoc]
    exact Nat.mul_le_mul_right _ (Nat.mul_le_mul_left _ hs)
  · have hr : r ∈ nextQ size s.1 := hr
    obtain ⟨t, ht, hrt⟩ := List.mem_flatMap.mp hr
    obtain ⟨x, _, rfl⟩ := List.mem_map.mp hrt
    have := q2 t ht
    rw [List.length_cons] at this
    rw [List.length_append, List.length_singleton]
    omega
theorem roomq_0 {n : Nat} (hn : n ≤ 13) : RoomQ (List.range n) ([[]], none) := ⟨by
  show 1 * 3 ^ (List.range n).length ≤ _
  rw [List.length_range, Nat.one_mul]
  exact three_le hn, fun r hr => by
  have : r = [] := by simpa using hr
  rw [this, List.length_range]; simpa using hn⟩
theorem fold_evq (size n : Nat) : ((List.range n).foldl (fun (s : List Quo × Option Dat) (k : Nat) => (nextQ size s.1, some (rgI k))) ([[]], none)).1 = EVQ size n := by
  unfold EVQ
  have : ∀ (l : List Nat) (s : List Quo) (o : Option Dat), (l.foldl (fun (s : List Quo × Option Dat) (k : Nat) => (nextQ size s.1, some (rgI k))) (s, o)).1 = l.foldl (fun qs _ => nextQ size qs) s := by
    intro l
    induction l with
    | nil => intro s o; rfl
    | cons x l ih => intro s o; rw [List.foldl_cons, List.foldl_cons]; exact ih _ _
  exact this _ _ _
def good (size n : Nat) (L : List Say) : List Quo := (EVQ size n).filter fun q => QS size q L
theorem EVQ_len {size : Nat} (hs : size ≤ 3) : ∀ n : Nat, (EVQ size n).length ≤ 3 ^ n
  | 0 => Nat.le_refl _
  | n + 1 => by
    rw [EVQ_succ, nextQ_len, Nat.pow_succ]
    exact Nat.mul_le_mul (EVQ_len hs n) hs
theorem qs_all (size : Int) (q : Quo) (L : List Say) : (L.all fun s => decide (lo size q s < size)) = QS size q L := by
  unfold QS
  induction L with
  | nil => rfl
  | cons s L ih =>
    rw [List.all_cons, List.any_cons, ih, Bool.not_or]
    by_cases c : lo size q s < size
    · rw [decide_eq_true c, decide_eq_false (show ¬ size ≤ lo size q s by omega)]; rfl
    · rw [decide_eq_false c, decide_eq_true (show size ≤ lo size q s by omega)]; rfl
def b_soundq (φ : Str → FnSem) : MS := sSeq (sAsgs (cCons (cCall (φ "least_sayings") (cCons (cVar 0) (cCons (cVar 1) (cNil)))) (cCons (cLst (cCons (cTup (cNil)) (cNil))) (cNil))) [4, 5]) (sSeq (sFor (iR1 (cCons (cVar 0) (cNil))) (aName 3) (sSeq (sAsg (cLc2 (iE (cVar 5)) (aName 6) (M.pure true) (cIn (iR2 (cCons (cConst (.int 1)) (cCons (cBin hAdd (cVar 2) (cConst (.int 1))) (cNil)))) (aName 7) (M.pure true) (cTup (cStar (cVar 6) (cCons (cVar 7) (cNil)))) [7]) [6, 7]) (aName 5)) (sNil))) (sSeq (sRet (cLc (iE (cVar 5)) (aName 6) (toB (cCB hAll (cCons (cLc (iE (cVar 4)) (aName 8) (M.pure true) (cBin hLt (cCall (φ "left_over") (cCons (cVar 2) (cCons (cVar 6) (cCons (cVar 8) (cNil))))) (cVar 2)) [8]) (cNil)))) (cVar 6) [6])) (sNil)))
theorem soundq_ok {φ χ : Str → FnSem} {n size : Nat} {d : Dat} {L : List Say} (hn : n ≤ 13) (hs : size ≤ 3) (hL : LOk n L) (hl : φ "least_sayings" [.int (n : Nat), d] = .ok (enc L) .none) (hlo : φ "left_over" = runG ⟨3, none, false⟩ 5 (b_left χ)) :
    runG ⟨3, none, false⟩ 9 (b_soundq φ) [.int (n : Nat), d, .int (size : Nat)] = .ok (.list ((good size n L).map enc)) .none := by
  have loop := forL_meas (τ := List Quo × Option Dat) (f := aName 3) (b := sSeq (sAsg (cLc2 (iE (cVar 5)) (aName 6) (M.pure true) (cIn (iR2 (cCons (cConst (.int 1)) (cCons (cBin hAdd (cVar 2) (cConst (.int 1))) (cNil)))) (aName 7) (M.pure true) (cTup (cStar (cVar 6) (cCons (cVar 7) (cNil)))) [7]) [6, 7]) (aName 5)) (sNil)) rgI
    (fun s => [some (.int (n : Nat)), some d, some (.int (size : Nat)), s.2, some (enc L), some (.list (s.1.map enc)), none, none, none]) (fun s k => (nextQ size s.1, some (rgI k))) RoomQ (fun k ks s q => by
      obtain ⟨qs, o⟩ := s
      have q3 := roomq_len q
      dsimp only at q3
      refine ⟨⟨_, rfl, ?_⟩, roomq_next hs q _⟩
      have hin : ∀ p ∈ qs, cIn (iR2 (cCons (cConst (.int 1)) (cCons (cBin hAdd (cVar 2) (cConst (.int 1))) (cNil)))) (aName 7) (M.pure true) (cTup (cStar (cVar 6) (cCons (cVar 7) (cNil)))) [7] [some (.int (n : Nat)), some d, some (.int (size : Nat)), some (rgI k), some (enc L), some (.list (qs.map enc)), some (enc p), none, none] = .ok ((QR size).map fun x => enc (p ++ [x])) [some (.int (n : Nat)), some d, some (.int (size : Nat)), some (rgI k), some (enc L), some (.list (qs.map enc)), some (enc p), none, none] := fun p hp =>
        cIn_ok PyData.int (fun x => [some (.int (n : Nat)), some d, some (.int (size : Nat)), some (rgI k), some (enc L), some (.list (qs.map enc)), some (enc p), some (.int x), none]) (fun x => enc (p ++ [x])) (QR size) (by simp only [bd_ok, sb_ok, tn_nx, tn_rt, tn_bk, tn_ct, lo_some, slo_some, vr0, vrS, ap_var, ap_const, ap_pure, ap_bin, ap_nil, ap_cons, ap_star, ap_tup, ap_lst, ap_cb, ap_isi, ap_rgl, ap_if, ap_not, tru_t, tru_f, ap_or, ap_and, ap_toB, ap_bNot, ap_bAnd, ap_bOr, ap_bCmp, boolO_some', ap_iE, ap_iR1, ap_iR2, ap_iEn, ap_iZip, ap_pN, ap_pS, ap_sl, call_ok, ap_call, callI_ok, ap_callIo, ap_hole, ls0, lsS, ap_bor', borE_int, borE_bool, ap_borT, borT_ok, ap_move, ap_sNil, ap_sPass, ap_seq, ap_asg, ap_asgs, ap_ret, ap_expr, ap_sIf, ap_for, ap_setIx, ap_mut, optE_some, tup0, tup1, tup2, tup3, lst0, lst1, lst2, lst3, aName, aCons, aNil, aTup2, Option.bind_some, Option.map_some, List.set_cons_zero, List.set_cons_succ, List.cons_append, List.nil_append, if_true, if_false, Bool.false_eq_true, if_pos, reduceIte, add_ii, rg2_QR (Nat.le_trans hs (by decide))]) rfl (fun _ _ => rfl) (fun x _ => by
          have hm : p.length + 1 ≤ lineN := by
            have := q.2 p hp
            refine Nat.le_trans ?_ (show 14 ≤ lineN by decide)
            omega
          have e1 : itemsOf (enc p) = some (p.map .int) := rfl
          have e2 : p.map PyData.int ++ [PyData.int x] = (p ++ [x]).map .int := by rw [List.map_append]; rfl
          simp only [bd_ok, sb_ok, tn_nx, tn_rt, tn_bk, tn_ct, lo_some, slo_some, vr0, vrS, ap_var, ap_const, ap_pure, ap_bin, ap_nil, ap_cons, ap_star, ap_tup, ap_lst, ap_cb, ap_isi, ap_rgl, ap_if, ap_not, tru_t, tru_f, ap_or, ap_and, ap_toB, ap_bNot, ap_bAnd, ap_bOr, ap_bCmp, boolO_some', ap_iE, ap_iR1, ap_iR2, ap_iEn, ap_iZip, ap_pN, ap_pS, ap_sl, call_ok, ap_call, callI_ok, ap_callIo, ap_hole, ls0, lsS, ap_bor', borE_int, borE_bool, ap_borT, borT_ok, ap_move, ap_sNil, ap_sPass, ap_seq, ap_asg, ap_asgs, ap_ret, ap_expr, ap_sIf, ap_for, ap_setIx, ap_mut, optE_some, tup0, tup1, tup2, tup3, lst0, lst1, lst2, lst3, aName, aCons, aNil, aTup2, Option.bind_some, Option.map_some, List.set_cons_zero, List.set_cons_succ, List.cons_append, List.nil_append, if_true, if_false, Bool.false_eq_true, if_pos, reduceIte, e1, e2]
          rw [tupOf_ok (by rw [List.length_map, List.length_append]; exact hm)]
          rfl) (fun _ _ => rfl)
      have hfl : (qs.flatMap fun p => (QR size).map fun x => enc (p ++ [x])) = (nextQ size qs).map enc := by
        unfold nextQ
        rw [List.map_flatMap]
        refine congrArg (fun f => qs.flatMap f) (funext fun p => ?_)
        rw [List.map_map]
        rfl
      have hc := cLc2_ok (gi := iE (cVar 5)) (f := aName 6) (inner := cIn (iR2 (cCons (cConst (.int 1)) (cCons (cBin hAdd (cVar 2) (cConst (.int 1))) (cNil)))) (aName 7) (M.pure true) (cTup (cStar (cVar 6) (cCons (cVar 7) (cNil)))) [7]) (vs := [6, 7]) (ρ := [some (.int (n : Nat)), some d, some (.int (size : Nat)), some (rgI k), some (enc L), some (.list (qs.map enc)), none, none, none]) enc (fun p => [some (.int (n : Nat)), some d, some (.int (size : Nat)), some (rgI k), some (enc L), some (.list (qs.map enc)), some (enc p), none, none]) (fun p => [some (.int (n : Nat)), some d, some (.int (size : Nat)), some (rgI k), some (enc L), some (.list (qs.map enc)), some (enc p), none, none]) (fun p => (QR size).map fun x => enc (p ++ [x])) qs
        (by simp only [bd_ok, sb_ok, tn_nx, tn_rt, tn_bk, tn_ct, lo_some, slo_some, vr0, vrS, ap_var, ap_const, ap_pure, ap_bin, ap_nil, ap_cons, ap_star, ap_tup, ap_lst, ap_cb, ap_isi, ap_rgl, ap_if, ap_not, tru_t, tru_f, ap_or, ap_and, ap_toB, ap_bNot, ap_bAnd, ap_bOr, ap_bCmp, boolO_some', ap_iE, ap_iR1, ap_iR2, ap_iEn, ap_iZip, ap_pN, ap_pS, ap_sl, call_ok, ap_call, callI_ok, ap_callIo, ap_hole, ls0, lsS, ap_bor', borE_int, borE_bool, ap_borT, borT_ok, ap_move, ap_sNil, ap_sPass, ap_seq, ap_asg, ap_asgs, ap_ret, ap_expr, ap_sIf, ap_for, ap_setIx, ap_mut, optE_some, tup0, tup1, tup2, tup3, lst0, lst1, lst2, lst3, aName, aCons, aNil, aTup2, Option.bind_some, Option.map_some, List.set_cons_zero, List.set_cons_succ, List.cons_append, List.nil_append, if_true, if_false, Bool.false_eq_true, if_pos, reduceIte, drawn_l]) rfl rfl (by
          rw [hfl, List.length_map, nextQ_len]
          refine Nat.le_trans (Nat.mul_le_mul_left _ hs) ?_
          exact Nat.le_trans (show qs.length * 3 ≤ 1594323 by omega) (by decide)) (fun _ _ => rfl) hin (fun _ _ => rfl)
      rw [hfl] at hc
      simp only [bd_ok, sb_ok, tn_nx, tn_rt, tn_bk, tn_ct, lo_some, slo_some, vr0, vrS, ap_var, ap_const, ap_pure, ap_bin, ap_nil, ap_cons, ap_star, ap_tup, ap_lst, ap_cb, ap_isi, ap_rgl, ap_if, ap_not, tru_t, tru_f, ap_or, ap_and, ap_toB, ap_bNot, ap_bAnd, ap_bOr, ap_bCmp, boolO_some', ap_iE, ap_iR1, ap_iR2, ap_iEn, ap_iZip, ap_pN, ap_pS, ap_sl, call_ok, ap_call, callI_ok, ap_callIo, ap_hole, ls0, lsS, ap_bor', borE_int, borE_bool, ap_borT, borT_ok, ap_move, ap_sNil, ap_sPass, ap_seq, ap_asg, ap_asgs, ap_ret, ap_expr, ap_sIf, ap_for, ap_setIx, ap_mut, optE_some, tup0, tup1, tup2, tup3, lst0, lst1, lst2, lst3, aName, aCons, aNil, aTup2, Option.bind_some, Option.map_some, List.set_cons_zero, List.set_cons_succ, List.cons_append, List.nil_append, if_true, if_false, Bool.false_eq_true, if_pos, reduceIte, hc]) (List.range n) ([[]], none) (roomq_0 hn)
  have fold := fold_evq size n
  obtain ⟨s, hss⟩ : ∃ s, s = (List.range n).foldl (fun (s : List Quo × Option Dat) (k : Nat) => (nextQ size s.1, some (rgI k))) ([[]], none) := ⟨_, rfl⟩
  rw [← hss] at loop fold
  have hEl : (EVQ size n).length ≤ lineN := Nat.le_trans (EVQ_len hs n) (Nat.le_trans (three_le hn) (by decide))
  have hc := cLc_ok (gi := iE (cVar 5)) (f := aName 6) (t := toB (cCB hAll (cCons (cLc (iE (cVar 4)) (aName 8) (M.pure true) (cBin hLt (cCall (φ "left_over") (cCons (cVar 2) (cCons (cVar 6) (cCons (cVar 8) (cNil))))) (cVar 2)) [8]) (cNil)))) (e := cVar 6) (vs := [6]) (ρ := [some (.int (n : Nat)), some d, some (.int (size : Nat)), s.2, some (enc L), some (.list ((EVQ size n).map enc)), none, none, none]) enc (fun p => [some (.int (n : Nat)), some d, some (.int (size : Nat)), s.2, some (enc L), some (.list ((EVQ size n).map enc)), some (enc p), none, none]) (fun p => QS size p L) enc (EVQ size n)
    (by simp only [bd_ok, sb_ok, tn_nx, tn_rt, tn_bk, tn_ct, lo_some, slo_some, vr0, vrS, ap_var, ap_const, ap_pure, ap_bin, ap_nil, ap_cons, ap_star, ap_tup, ap_lst, ap_cb, ap_isi, ap_rgl, ap_if, ap_not, tru_t, tru_f, ap_or, ap_and, ap_toB, ap_bNot, ap_bAnd, ap_bOr, ap_bCmp, boolO_some', ap_iE, ap_iR1, ap_iR2, ap_iEn, ap_iZip, ap_pN, ap_pS, ap_sl, call_ok, ap_call, callI_ok, ap_callIo, ap_hole, ls0, lsS, ap_bor', borE_int, borE_bool, ap_borT, borT_ok, ap_move, ap_sNil, ap_sPass, ap_seq, ap_asg, ap_asgs, ap_ret, ap_expr, ap_sIf, ap_for, ap_setIx, ap_mut, optE_some, tup0, tup1, tup2, tup3, lst0, lst1, lst2, lst3, aName, aCons, aNil, aTup2, Option.bind_some, Option.map_some, List.set_cons_zero, List.set_cons_succ, List.cons_append, List.nil_append, if_true, if_false, Bool.false_eq_true, if_pos, reduceIte, drawn_l]) rfl rfl hEl (fun _ _ => rfl) (fun p hp => by
      have hi := cLc_map (gi := iE (cVar 4)) (f := aName 8) (e := cBin hLt (cCall (φ "left_over") (cCons (cVar 2) (cCons (cVar 6) (cCons (cVar 8) (cNil))))) (cVar 2)) (vs := [8]) (ρ := [some (.int (n : Nat)), some d, some (.int (size : Nat)), s.2, some (enc L), some (.list ((EVQ size n).map enc)), some (enc p), none, none]) enc (fun z => [some (.int (n : Nat)), some d, some (.int (size : Nat)), s.2, some (enc L), some (.list ((EVQ size n).map enc)), some (enc p), none, some (enc z)]) (fun z => .bool (decide (lo size p z < size))) L
        (by have : drawn (enc L) = some (L.map enc) := rfl
            simp only [bd_ok, sb_ok, tn_nx, tn_rt, tn_bk, tn_ct, lo_some, slo_some, vr0, vrS, ap_var, ap_const, ap_pure, ap_bin, ap_nil, ap_cons, ap_star, ap_tup, ap_lst, ap_cb, ap_isi, ap_rgl, ap_if, ap_not, tru_t, tru_f, ap_or, ap_and, ap_toB, ap_bNot, ap_bAnd, ap_bOr, ap_bCmp, boolO_some', ap_iE, ap_iR1, ap_iR2, ap_iEn, ap_iZip, ap_pN, ap_pS, ap_sl, call_ok, ap_call, callI_ok, ap_callIo, ap_hole, ls0, lsS, ap_bor', borE_int, borE_bool, ap_borT, borT_ok, ap_move, ap_sNil, ap_sPass, ap_seq, ap_asg, ap_asgs, ap_ret, ap_expr, ap_sIf, ap_for, ap_setIx, ap_mut, optE_some, tup0, tup1, tup2, tup3, lst0, lst1, lst2, lst3, aName, aCons, aNil, aTup2, Option.bind_some, Option.map_some, List.set_cons_zero, List.set_cons_succ, List.cons_append, List.nil_append, if_true, if_false, Bool.false_eq_true, if_pos, reduceIte, this]) rfl rfl hL.1 (fun _ _ => rfl) (fun z m => by
          have : φ "left_over" [.int (size : Nat), enc p, enc z] = .ok (.int (lo size p z)) .none := by rw [hlo]; exact left_ok (n := n) size p z (hL.2 z m).1 (hL.2 z m).2 (EVQ_mem size n p hp).1
          simp only [bd_ok, sb_ok, tn_nx, tn_rt, tn_bk, tn_ct, lo_some, slo_some, vr0, vrS, ap_var, ap_const, ap_pure, ap_bin, ap_nil, ap_cons, ap_star, ap_tup, ap_lst, ap_cb, ap_isi, ap_rgl, ap_if, ap_not, tru_t, tru_f, ap_or, ap_and, ap_toB, ap_bNot, ap_bAnd, ap_bOr, ap_bCmp, boolO_some', ap_iE, ap_iR1, ap_iR2, ap_iEn, ap_iZip, ap_pN, ap_pS, ap_sl, call_ok, ap_call, callI_ok, ap_callIo, ap_hole, ls0, lsS, ap_bor', borE_int, borE_bool, ap_borT, borT_ok, ap_move, ap_sNil, ap_sPass, ap_seq, ap_asg, ap_asgs, ap_ret, ap_expr, ap_sIf, ap_for, ap_setIx, ap_mut, optE_some, tup0, tup1, tup2, tup3, lst0, lst1, lst2, lst3, aName, aCons, aNil, aTup2, Option.bind_some, Option.map_some, List.set_cons_zero, List.set_cons_succ, List.cons_append, List.nil_append, if_true, if_false, Bool.false_eq_true, if_pos, reduceIte, this, lt_ii]) (fun _ _ => rfl)
      simp only [bd_ok, sb_ok, tn_nx, tn_rt, tn_bk, tn_ct, lo_some, slo_some, vr0, vrS, ap_var, ap_const, ap_pure, ap_bin, ap_nil, ap_cons, ap_star, ap_tup, ap_lst, ap_cb, ap_isi, ap_rgl, ap_if, ap_not, tru_t, tru_f, ap_or, ap_and, ap_toB, ap_bNot, ap_bAnd, ap_bOr, ap_bCmp, boolO_some', ap_iE, ap_iR1, ap_iR2, ap_iEn, ap_iZip, ap_pN, ap_pS, ap_sl, call_ok, ap_call, callI_ok, ap_callIo, ap_hole, ls0, lsS, ap_bor', borE_int, borE_bool, ap_borT, borT_ok, ap_move, ap_sNil, ap_sPass, ap_seq, ap_asg, ap_asgs, ap_ret, ap_expr, ap_sIf, ap_for, ap_setIx, ap_mut, optE_some, tup0, tup1, tup2, tup3, lst0, lst1, lst2, lst3, aName, aCons, aNil, aTup2, Option.bind_some, Option.map_some, List.set_cons_zero, List.set_cons_succ, List.cons_append, List.nil_append, if_true, if_false, Bool.false_eq_true, if_pos, reduceIte, hi, all_map, tru_b, qs_all]) (fun _ _ _ => by simp only [bd_ok, sb_ok, tn_nx, tn_rt, tn_bk, tn_ct, lo_some, slo_some, vr0, vrS, ap_var, ap_const, ap_pure, ap_bin, ap_nil, ap_cons, ap_star, ap_tup, ap_lst, ap_cb, ap_isi, ap_rgl, ap_if, ap_not, tru_t, tru_f, ap_or, ap_and, ap_toB, ap_bNot, ap_bAnd, ap_bOr, ap_bCmp, boolO_some', ap_iE, ap_iR1, ap_iR2, ap_iEn, ap_iZip, ap_pN, ap_pS, ap_sl, call_ok, ap_call, callI_ok, ap_callIo, ap_hole, ls0, lsS, ap_bor', borE_int, borE_bool, ap_borT, borT_ok, ap_move, ap_sNil, ap_sPass, ap_seq, ap_asg, ap_asgs, ap_ret, ap_expr, ap_sIf, ap_for, ap_setIx, ap_mut, optE_some, tup0, tup1, tup2, tup3, lst0, lst1, lst2, lst3, aName, aCons, aNil, aTup2, Option.bind_some, Option.map_some, List.set_cons_zero, List.set_cons_succ, List.cons_append, List.nil_append, if_true, if_false, Bool.false_eq_true, if_pos, reduceIte]) (fun _ _ => rfl)
  refine runG_rt (ρ := [some (.int (n : Nat)), some d, some (.int (size : Nat)), s.2, some (enc L), some (.list ((EVQ size n).map enc)), none, none, none]) rfl ?_
  show b_soundq φ [some (.int (n : Nat)), some d, some (.int (size : Nat)), none, none, none, none, none, none] = _
  unfold b_soundq
  rw [fold] at loop
  dsimp only at loop
  have l2 : [enc L, PyData.list [.tuple []]].length ≤ lineN := show (2 : Nat) ≤ lineN by decide
  have sa : setAll [some (PyData.int (n : Nat)), some d, some (.int (size : Nat)), none, none, none, none, none, none] [4, 5] [enc L, PyData.list [.tuple []]] = [some (.int (n : Nat)), some d, some (.int (size : Nat)), none, some (enc L), some (.list (([[]] : List Quo).map enc)), none, none, none] := rfl
  simp only [bd_ok, sb_ok, tn_nx, tn_rt, tn_bk, tn_ct, lo_some, slo_some, vr0, vrS, ap_var, ap_const, ap_pure, ap_bin, ap_nil, ap_cons, ap_star, ap_tup, ap_lst, ap_cb, ap_isi, ap_rgl, ap_if, ap_not, tru_t, tru_f, ap_or, ap_and, ap_toB, ap_bNot, ap_bAnd, ap_bOr, ap_bCmp, boolO_some', ap_iE, ap_iR1, ap_iR2, ap_iEn, ap_iZip, ap_pN, ap_pS, ap_sl, call_ok, ap_call, callI_ok, ap_callIo, ap_hole, ls0, lsS, ap_bor', borE_int, borE_bool, ap_borT, borT_ok, ap_move, ap_sNil, ap_sPass, ap_seq, ap_asg, ap_asgs, ap_ret, ap_expr, ap_sIf, ap_for, ap_setIx, ap_mut, optE_some, tup0, tup1, tup2, tup3, lst0, lst1, lst2, lst3, aName, aCons, aNil, aTup2, Option.bind_some, Option.map_some, List.set_cons_zero, List.set_cons_succ, List.cons_append, List.nil_append, if_true, if_false, Bool.false_eq_true, if_pos, reduceIte, hl]
  rw [if_pos l2]
  simp only [bd_ok, sb_ok, tn_nx, tn_rt, tn_bk, tn_ct, lo_some, slo_some, vr0, vrS, ap_var, ap_const, ap_pure, ap_bin, ap_nil, ap_cons, ap_star, ap_tup, ap_lst, ap_cb, ap_isi, ap_rgl, ap_if, ap_not, tru_t, tru_f, ap_or, ap_and, ap_toB, ap_bNot, ap_bAnd, ap_bOr, ap_bCmp, boolO_some', ap_iE, ap_iR1, ap_iR2, ap_iEn, ap_iZip, ap_pN, ap_pS, ap_sl, call_ok, ap_call, callI_ok, ap_callIo, ap_hole, ls0, lsS, ap_bor', borE_int, borE_bool, ap_borT, borT_ok, ap_move, ap_sNil, ap_sPass, ap_seq, ap_asg, ap_asgs, ap_ret, ap_expr, ap_sIf, ap_for, ap_setIx, ap_mut, optE_some, tup0, tup1, tup2, tup3, lst0, lst1, lst2, lst3, aName, aCons, aNil, aTup2, Option.bind_some, Option.map_some, List.set_cons_zero, List.set_cons_succ, List.cons_append, List.nil_append, if_true, if_false, Bool.false_eq_true, if_pos, reduceIte, sa, rg1_nat (Nat.le_trans hn (by decide)), loop, hc]
  rfl
theorem rep_tup {n : Nat} (h2 : 2 ≤ n) (hn : n ≤ 1000) (x : Int) : hMul (.tuple [.int x]) (.int (n : Nat)) = some (enc (List.replicate n x)) := by
  show (if [PyData.int x] ≠ [] ∧ 2 ≤ ((n : Nat) : Int) ∧ ((n : Nat) : Int) ≤ 1000 ∧ [PyData.int x].length ≤ 1000 then some (PyData.tuple (List.replicate ((n : Nat) : Int).toNat [PyData.int x]).flatten) else none) = _
  rw [if_pos ⟨by simp, by omega, by omega, by simp⟩, Int.toNat_natCast, enc_list, List.map_replicate]
  have : ∀ m : Nat, (List.replicate m [PyData.int x]).flatten = List.replicate m (PyData.int x) := by
    intro m
    induction m with
    | zero => rfl
    | succ m ih => rw [List.replicate_succ, List.flatten_cons, ih, List.replicate_succ]; rfl
  rw [this]
  rfl
def ones (f n : Nat) (L : List Say) : List Int := (QR f).filter fun x => QS f (List.replicate n x) L
def b_oneq (φ : Str → FnSem) : MS := sSeq (sRet (cCB hTuple (cCons (cLc (iR2 (cCons (cConst (.int 1)) (cCons (cBin hAdd (cVar 2) (cConst (.int 1))) (cNil)))) (aName 3) (toB (cCall (φ "quotas_sound") (cCons (cVar 0) (cCons (cVar 1) (cCons (cVar 2) (cCons (cBin hMul (cTup (cCons (cVar 3) (cNil))) (cVar 0)) (cNil))))))) (cVar 3) [3]) (cNil)))) (sNil)
theorem oneq_ok {φ : Str → FnSem} {n f : Nat} {d : Dat} {L : List Say} (h2 : 2 ≤ n) (hn : n ≤ 13) (hf : f ≤ 1000000) (hq : ∀ (size : Int) (q : Quo), q.length = n → φ "quotas_sound" [.int (n : Nat), d, .int size, enc q] = .ok (.bool (QS size q L)) .none) :
    runG ⟨3, none, false⟩ 4 (b_oneq φ) [.int (n : Nat), d, .int (f : Nat)] = .ok (enc (ones f n L)) .none := by
  refine runG_rt (ρ := [some (.int (n : Nat)), some d, some (.int (f : Nat)), none]) rfl ?_
  show b_oneq φ [some (.int (n : Nat)), some d, some (.int (f : Nat)), none] = _
  unfold b_oneq
  have hc := cLc_ok (gi := iR2 (cCons (cConst (.int 1)) (cCons (cBin hAdd (cVar 2) (cConst (.int 1))) (cNil)))) (f := aName 3) (t := toB (cCall (φ "quotas_sound") (cCons (cVar 0) (cCons (cVar 1) (cCons (cVar 2) (cCons (cBin hMul (cTup (cCons (cVar 3) (cNil))) (cVar 0)) (cNil))))))) (e := cVar 3) (vs := [3]) (ρ := [some (.int (n : Nat)), some d, some (.int (f : Nat)), none]) PyData.int (fun x => [some (.int (n : Nat)), some d, some (.int (f : Nat)), some (.int x)]) (fun x => QS f (List.replicate n x) L) PyData.int (QR f)
    (by simp only [bd_ok, sb_ok, tn_nx, tn_rt, tn_bk, tn_ct, lo_some, slo_some, vr0, vrS, ap_var, ap_const, ap_pure, ap_bin, ap_nil, ap_cons, ap_star, ap_tup, ap_lst, ap_cb, ap_isi, ap_rgl, ap_if, ap_not, tru_t, tru_f, ap_or, ap_and, ap_toB, ap_bNot, ap_bAnd, ap_bOr, ap_bCmp, boolO_some', ap_iE, ap_iR1, ap_iR2, ap_iEn, ap_iZip, ap_pN, ap_pS, ap_sl, call_ok, ap_call, callI_ok, ap_callIo, ap_hole, ls0, lsS, ap_bor', borE_int, borE_bool, ap_borT, borT_ok, ap_move, ap_sNil, ap_sPass, ap_seq, ap_asg, ap_asgs, ap_ret, ap_expr, ap_sIf, ap_for, ap_setIx, ap_mut, optE_some, tup0, tup1, tup2, tup3, lst0, lst1, lst2, lst3, aName, aCons, aNil, aTup2, Option.bind_some, Option.map_some, List.set_cons_zero, List.set_cons_succ, List.cons_append, List.nil_append, if_true, if_false, Bool.false_eq_true, if_pos, reduceIte, add_ii, rg2_QR hf]) rfl rfl (by rw [QR_len]; exact Nat.le_trans hf (by decide)) (fun _ _ => rfl) (fun x _ => by
      simp only [bd_ok, sb_ok, tn_nx, tn_rt, tn_bk, tn_ct, lo_some, slo_some, vr0, vrS, ap_var, ap_const, ap_pure, ap_bin, ap_nil, ap_cons, ap_star, ap_tup, ap_lst, ap_cb, ap_isi, ap_rgl, ap_if, ap_not, tru_t, tru_f, ap_or, ap_and, ap_toB, ap_bNot, ap_bAnd, ap_bOr, ap_bCmp, boolO_some', ap_iE, ap_iR1, ap_iR2, ap_iEn, ap_iZip, ap_pN, ap_pS, ap_sl, call_ok, ap_call, callI_ok, ap_callIo, ap_hole, ls0, lsS, ap_bor', borE_int, borE_bool, ap_borT, borT_ok, ap_move, ap_sNil, ap_sPass, ap_seq, ap_asg, ap_asgs, ap_ret, ap_expr, ap_sIf, ap_for, ap_setIx, ap_mut, optE_some, tup0, tup1, tup2, tup3, lst0, lst1, lst2, lst3, aName, aCons, aNil, aTup2, Option.bind_some, Option.map_some, List.set_cons_zero, List.set_cons_succ, List.cons_append, List.nil_append, if_true, if_false, Bool.false_eq_true, if_pos, reduceIte, rep_tup h2 (Nat.le_trans hn (by decide)), hq f (List.replicate n x) List.length_replicate, tru_b]) (fun _ _ _ => by simp only [bd_ok, sb_ok, tn_nx, tn_rt, tn_bk, tn_ct, lo_some, slo_some, vr0, vrS, ap_var, ap_const, ap_pure, ap_bin, ap_nil, ap_cons, ap_star, ap_tup, ap_lst, ap_cb, ap_isi, ap_rgl, ap_if, ap_not, tru_t, tru_f, ap_or, ap_and, ap_toB, ap_bNot, ap_bAnd, ap_bOr, ap_bCmp, boolO_some', ap_iE, ap_iR1, ap_iR2, ap_iEn, ap_iZip, ap_pN, ap_pS, ap_sl, call_ok, ap_call, callI_ok, ap_callIo, ap_hole, ls0, lsS, ap_bor', borE_int, borE_bool, ap_borT, borT_ok, ap_move, ap_sNil, ap_sPass, ap_seq, ap_asg, ap_asgs, ap_ret, ap_expr, ap_sIf, ap_for, ap_setIx, ap_mut, optE_some, tup0, tup1, tup2, tup3, lst0, lst1, lst2, lst3, aName, aCons, aNil, aTup2, Option.bind_some, Option.map_some, List.set_cons_zero, List.set_cons_succ, List.cons_append, List.nil_append, if_true, if_false, Bool.false_eq_true, if_pos, reduceIte]) (fun _ _ => rfl)
  have ht : hTuple [.list ((ones f n L).map .int)] = some (enc (ones f n L)) := rfl
  unfold ones at ht
  simp only [bd_ok, sb_ok, tn_nx, tn_rt, tn_bk, tn_ct, lo_some, slo_some, vr0, vrS, ap_var, ap_const, ap_pure, ap_bin, ap_nil, ap_cons, ap_star, ap_tup, ap_lst, ap_cb, ap_isi, ap_rgl, ap_if, ap_not, tru_t, tru_f, ap_or, ap_and, ap_toB, ap_bNot, ap_bAnd, ap_bOr, ap_bCmp, boolO_some', ap_iE, ap_iR1, ap_iR2, ap_iEn, ap_iZip, ap_pN, ap_pS, ap_sl, call_ok, ap_call, callI_ok, ap_callIo, ap_hole, ls0, lsS, ap_bor', borE_int, borE_bool, ap_borT, borT_ok, ap_move, ap_sNil, ap_sPass, ap_seq, ap_asg, ap_asgs, ap_ret, ap_expr, ap_sIf, ap_for, ap_setIx, ap_mut, optE_some, tup0, tup1, tup2, tup3, lst0, lst1, lst2, lst3, aName, aCons, aNil, aTup2, Option.bind_some, Option.map_some, List.set_cons_zero, List.set_cons_succ, List.cons_append, List.nil_append, if_true, if_false, Bool.false_eq_true, if_pos, reduceIte, hc, ht]
  rfl
end L2.PV
set_option Elab.async false
set_option linter.all false
set_option maxRecDepth 100000
set_option maxHeartbeats 4000000
namespace L2.PV
open PySem PySem.Spec PyProof.Rows
open Enc (enc)
/-! ### the plain law: quotas -/
def cnt (m : Int) (s : Say) : Nat := (s.filter fun a => decide (a.2 = m)).length
def Marks (n : Nat) (s : Say) : Prop := ∀ a ∈ s, (0 ≤ a.1 ∧ a.1 < n) ∧ (a.2 = 0 ∨ a.2 = 1)
theorem at_rep {n : Nat} {x i : Int} (h0 : 0 ≤ i) (h1 : i < n) : at0 (List.replicate n x) i = x := by
  unfold at0
  rw [List.getD_eq_getElem?_getD, List.getElem?_replicate, if_pos (by omega)]
  rfl
theorem lo_cons (size : Int) (q : Quo) (a : Int × Int) (s : Say) : lo size q (a :: s) = (if a.2 = 1 then size - at0 q a.1 else at0 q a.1 - 1) + lo size q s := by
  unfold lo; rw [List.map_cons, List.sum_cons]
theorem cnt_cons (m : Int) (a : Int × Int) (s : Say) : cnt m (a :: s) = (if a.2 = m then 1 else 0) + cnt m s := by
  unfold cnt
  rw [List.filter_cons]
  by_cases c : a.2 = m
  · rw [if_pos c, if_pos (decide_eq_true c), List.length_cons]; omega
  · rw [if_neg c, if_neg (by rw [decide_eq_false c]; exact Bool.false_ne_true)]; omega
theorem lo_rep {n : Nat} (f x : Int) : ∀ s : Say, Marks n s → lo f (List.replicate n x) s = (cnt 1 s : Int) * (f - x) + (cnt 0 s : Int) * (x - 1)
  | [], _ => by simp [lo, cnt]
  | a :: s, h => by
    have ih := lo_rep f x s fun b hb => h b (List.mem_cons_of_mem _ hb)
    have ha := h a (List.mem_cons_self ..)
    rw [lo_cons, ih, cnt_cons, cnt_cons, at_rep ha.1.1 ha.1.2]
    rcases ha.2 with e | e
    · rw [if_neg (by omega), if_neg (by omega), if_pos e]
      simp only [Int.natCast_add, Int.add_mul]
      omega
    · rw [if_pos e, if_pos e, if_neg (by omega)]
      simp only [Int.natCast_add, Int.add_mul]
      omega
theorem cnt_len {n : Nat} : ∀ s : Say, Marks n s → s.length = cnt 1 s + cnt 0 s
  | [], _ => rfl
  | a :: s, h => by
    have ih := cnt_len s fun b hb => h b (List.mem_cons_of_mem _ hb)
    have ha := h a (List.mem_cons_self ..)
    rw [List.length_cons, ih, cnt_cons, cnt_cons]
    rcases ha.2 with e | e
    · rw [if_neg (by omega), if_pos e]; omega
    · rw [if_pos e, if_neg (by omega)]; omega
theorem QS_iff {size : Int} {q : Quo} {L : List Say} : QS size q L = true ↔ ∀ s ∈ L, lo size q s < size := by
  unfold QS
  rw [Bool.not_eq_true', List.any_eq_false]
  constructor
  · intro h s hs
    have := h s hs
    simp at this
    omega
  · intro h s hs
    have := h s hs
    simp
    omega
theorem ones_mem {f n : Nat} {L : List Say} {x : Int} : x ∈ ones f n L ↔ (1 ≤ x ∧ x ≤ f) ∧ ∀ s ∈ L, lo f (List.replicate n x) s < f := by
  unfold ones
  rw [List.mem_filter, QR_mem, QS_iff]
theorem mul_lt_iff {c : Nat} {f : Int} (hf : 2 ≤ f) : (c : Int) * (f - 1) < f ↔ c ≤ 1 := by
  constructor
  · intro h
    by_cases hc : c ≤ 1
    · exact hc
    · have : (2 : Int) * (f - 1) ≤ (c : Int) * (f - 1) := Int.mul_le_mul_of_nonneg_right (by omega) (by omega)
      omega
  · intro h
    have : (c : Int) * (f - 1) ≤ 1 * (f - 1) := Int.mul_le_mul_of_nonneg_right (by omega) (by omega)
    omega
theorem nil_iff {α : Type} {p : α → Bool} {L : List α} : L.filter p = [] ↔ ∀ s ∈ L, p s = false := by
  rw [List.filter_eq_nil_iff]
  constructor
  · intro h s hs; have := h s hs; simpa using this
  · intro h s hs; rw [h s hs]; simp
section
variable {f n : Nat} {L : List Say} (hL : ∀ s ∈ L, Marks n s)
include hL
theorem ones_f (hf : 2 ≤ f) : ((f : Int) ∈ ones f n L) ↔ L.filter (fun s => decide ((1 : Int) < (cnt 0 s : Nat))) = [] := by
  rw [ones_mem, nil_iff]
  constructor
  · rintro ⟨_, h⟩ s hs
    have := h s hs
    rw [lo_rep _ _ s (hL s hs)] at this
    have := (mul_lt_iff (c := cnt 0 s) (f := f) (by omega)).mp (by rw [Int.sub_self, Int.mul_zero, Int.zero_add] at this; exact this)
    exact decide_eq_false (by omega)
  · intro h
    refine ⟨⟨by omega, Int.le_refl _⟩, fun s hs => ?_⟩
    have := of_decide_eq_false (h s hs)
    rw [lo_rep _ _ s (hL s hs), Int.sub_self, Int.mul_zero, Int.zero_add]
    exact (mul_lt_iff (by omega)).mpr (by omega)
theorem ones_1 (hf : 2 ≤ f) : ((1 : Int) ∈ ones f n L) ↔ L.filter (fun s => decide ((1 : Int) < (cnt 1 s : Nat))) = [] := by
  rw [ones_mem, nil_iff]
  constructor
  · rintro ⟨_, h⟩ s hs
    have := h s hs
    rw [lo_rep _ _ s (hL s hs)] at this
    have := (mul_lt_iff (c := cnt 1 s) (f := f) (by omega)).mp (by rw [Int.sub_self, Int.mul_zero, Int.add_zero] at this; exact this)
    exact decide_eq_false (by omega)
  · intro h
    refine ⟨⟨Int.le_refl _, by omega⟩, fun s hs => ?_⟩
    have := of_decide_eq_false (h s hs)
    rw [lo_rep _ _ s (hL s hs), Int.sub_self, Int.mul_zero, Int.add_zero]
    exact (mul_lt_iff (by omega)).mpr (by omega)
theorem ones_2 : ((2 : Int) ∈ ones 3 n L) ↔ L.filter (fun s => decide ((2 : Int) < (s.length : Nat))) = [] := by
  rw [ones_mem, nil_iff]
  constructor
  · rintro ⟨_, h⟩ s hs
    have := h s hs
    rw [lo_rep _ _ s (hL s hs)] at this
    have e := cnt_len s (hL s hs)
    exact decide_eq_false (by omega)
  · intro h
    refine ⟨by omega, fun s hs => ?_⟩
    have := of_decide_eq_false (h s hs)
    rw [lo_rep _ _ s (hL s hs)]
    have e := cnt_len s (hL s hs)
    omega
theorem ones_one : ones 1 n L = [1] := by
  unfold ones
  have e : QR 1 = [1] := rfl
  have q : QS (1 : Nat) (List.replicate n 1) L = true := by
    rw [QS_iff]
    intro s hs
    rw [lo_rep _ _ s (hL s hs)]
    omega
  rw [e, List.filter_cons]
  exact (if_pos q).trans rfl
end
theorem at_map (q : Quo) (i : Int) : at0 (q.map fun x => 2 * x) i = 2 * at0 q i := by
  unfold at0
  rw [List.getD_eq_getElem?_getD, List.getD_eq_getElem?_getD, List.getElem?_map]
  cases q[i.toNat]? <;> simp
theorem lo_double (size : Int) (q : Quo) : ∀ s : Say, cnt 0 s = 0 → (∀ a ∈ s, a.2 = 0 ∨ a.2 = 1) → lo (2 * size) (q.map fun x => 2 * x) s = 2 * lo size q s
  | [], _, _ => rfl
  | a :: s, h, hm => by
    rw [cnt_cons] at h
    have ha : a.2 = 1 := by
      rcases hm a (List.mem_cons_self ..) with e | e
      · rw [if_pos e] at h; omega
      · exact e
    rw [lo_cons, lo_cons, if_pos ha, if_pos ha, at_map, lo_double size q s (by rw [if_neg (by omega)] at h; omega) fun b hb => hm b (List.mem_cons_of_mem _ hb)]
    omega
theorem QS_double {size : Int} {q : Quo} {L : List Say} (h : QS size q L = true) (h0 : ∀ s ∈ L, cnt 0 s = 0) (hm : ∀ s ∈ L, ∀ a ∈ s, a.2 = 0 ∨ a.2 = 1) : QS (2 * size) (q.map fun x => 2 * x) L = true := by
  rw [QS_iff] at h ⊢
  intro s hs
  rw [lo_double size q s (h0 s hs) (hm s hs)]
  have := h s hs
  omega
/-! ### least sayings, told without the walk -/
theorem SAYS_of : ∀ (n : Nat) (s : Say), (s.map Prod.fst).Pairwise (· < ·) → Marks n s → s ∈ SAYS n
  | 0, s, _, h => by
    cases s with
    | nil => exact nil_SAYS 0
    | cons a s => have := (h a (List.mem_cons_self ..)).1; omega
  | n + 1, s, hp, h => by
    rw [SAYS_succ, nextS, List.mem_append]
    rcases List.eq_nil_or_concat s with rfl | ⟨t, a, rfl⟩
    · exact .inl (nil_SAYS n)
    · rw [List.concat_eq_append] at hp h ⊢
      rw [List.map_append, List.pairwise_append] at hp
      have ha := h a (List.mem_append_right _ (List.mem_singleton_self _))
      have ht : ∀ b ∈ t, b.1 < a.1 := fun b hb => hp.2.2 b.1 (List.mem_map.mpr ⟨b, hb, rfl⟩) a.1 (by simp)
      by_cases c : a.1 = n
      · refine .inr (List.mem_flatMap.mpr ⟨t, SAYS_of n t hp.1 fun b hb => ?_, ?_⟩)
        · have hb' := h b (List.mem_append_left _ hb)
          have := ht b hb
          exact ⟨⟨hb'.1.1, by omega⟩, hb'.2⟩
        · obtain ⟨a1, a2⟩ := a
          dsimp only at c ha
          subst c
          rcases ha.2 with e | e
          · rw [e]; simp
          · rw [e]; simp
      · have hlt : a.1 < n := by omega
        refine .inl (SAYS_of n _ (by rw [List.map_append, List.pairwise_append]; exact hp) fun b hb => ?_)
        have hb' := h b hb
        rcases List.mem_append.mp hb with hb | hb
        · have := ht b hb
          exact ⟨⟨hb'.1.1, by omega⟩, hb'.2⟩
        · rw [List.mem_singleton.mp hb] at hb' ⊢
          exact ⟨⟨hb'.1.1, hlt⟩, hb'.2⟩
theorem SAYS_iff {n : Nat} {s : Say} : s ∈ SAYS n ↔ (s.map Prod.fst).Pairwise (· < ·) ∧ Marks n s :=
  ⟨fun h => ⟨(SAYS_ok n s h).2.1, (SAYS_ok n s h).2.2⟩, fun h => SAYS_of n s h.1 h.2⟩
theorem sub_sorted : ∀ {s t : Say}, (t.map Prod.fst).Pairwise (· < ·) → (s.map Prod.fst).Pairwise (· < ·) → (∀ a ∈ t, a ∈ s) → t.Sublist s
  | s, [], _, _, _ => List.nil_sublist _
  | [], a :: t, _, _, h => by have := h a (List.mem_cons_self ..); cases this
  | b :: s, a :: t, ht, hs, h => by
    rw [List.map_cons, List.pairwise_cons] at ht hs
    have ha := h a (List.mem_cons_self ..)
    rcases List.mem_cons.mp ha with e | ha
    · subst e
      refine (sub_sorted ht.2 hs.2 fun c hc => ?_).cons₂ a
      rcases List.mem_cons.mp (h c (List.mem_cons_of_mem _ hc)) with e | e
      · have := ht.1 c.1 (List.mem_map.mpr ⟨c, hc, rfl⟩)
        rw [e] at this
        omega
      · exact e
    · refine (sub_sorted (t := a :: t) (by rw [List.map_cons, List.pairwise_cons]; exact ht) hs.2 fun c hc => ?_).cons b
      rcases List.mem_cons.mp (h c hc) with e | e
      · have h1 := hs.1 a.1 (List.mem_map.mpr ⟨a, ha, rfl⟩)
        rcases List.mem_cons.mp hc with e2 | hc
        · rw [← e2, e] at h1; omega
        · have h2 := ht.1 c.1 (List.mem_map.mpr ⟨c, hc, rfl⟩)
          rw [e] at h2; omega
      · exact e
theorem part_iff {t s : Say} : part t s = true ↔ ∀ a ∈ t, a ∈ s := by unfold part; simp
theorem part_sub {n : Nat} {t s : Say} (ht : t ∈ SAYS n) (hs : s ∈ SAYS n) (h : part t s = true) : t.Sublist s := sub_sorted (SAYS_iff.mp ht).1 (SAYS_iff.mp hs).1 (part_iff.mp h)
theorem part_trans {u t s : Say} (h1 : part u t = true) (h2 : part t s = true) : part u s = true := part_iff.mpr fun a ha => part_iff.mp h2 a (part_iff.mp h1 a ha)
theorem part_self (s : Say) : part s s = true := part_iff.mpr fun _ h => h
theorem stepL_sub (rows : List (List Int)) (found : List Say) (x : Say) : ∀ t ∈ found, t ∈ stepL rows found x := fun t ht => by
  unfold stepL
  split
  · exact List.mem_append_left _ ht
  · exact ht
theorem foldl_sub (rows : List (List Int)) : ∀ (l found : List Say), ∀ t ∈ found, t ∈ l.foldl (stepL rows) found
  | [], _, _, h => h
  | x :: l, found, t, h => foldl_sub rows l _ t (stepL_sub rows found x t h)
theorem foldl_cover (rows : List (List Int)) : ∀ (l found : List Say), ∀ x ∈ l, rows.any (fun r => barsT x r) = false → ∃ t ∈ l.foldl (stepL rows) found, part t x = true
  | [], _, _, h, _ => by cases h
  | y :: l, found, x, h, hb => by
    rw [List.foldl_cons]
    rcases List.mem_cons.mp h with rfl | h
    · cases c : found.any (fun t => part t x) with
      | true =>
        obtain ⟨t, ht, hp⟩ := List.any_eq_true.mp c
        exact ⟨t, foldl_sub rows l _ t (stepL_sub rows found x t ht), hp⟩
      | false =>
        refine ⟨x, foldl_sub rows l _ x ?_, part_self x⟩
        unfold stepL
        rw [c, hb]
        simp
    · exact foldl_cover rows l _ x h hb
theorem foldl_split (rows : List (List Int)) : ∀ (l found : List Say), ∀ s ∈ l.foldl (stepL rows) found, s ∈ found ∨ ∃ l1 l2, l = l1 ++ s :: l2 ∧ ∀ t ∈ l1.foldl (stepL rows) found, part t s = false
  | [], _, _, h => .inl h
  | x :: l, found, s, h => by
    rw [List.foldl_cons] at h
    rcases foldl_split rows l _ s h with h | ⟨l1, l2, e, hn⟩
    · unfold stepL at h
      split at h
      · rename_i c
        rw [Bool.and_eq_true, Bool.not_eq_true', List.any_eq_false] at c
        rcases List.mem_append.mp h with h | h
        · exact .inl h
        · rw [List.mem_singleton.mp h]
          exact .inr ⟨[], l, rfl, fun t ht => by have := c.1 t ht; simpa using this⟩
      · exact .inl h
    · exact .inr ⟨x :: l1, l2, by rw [e]; rfl, hn⟩
theorem LSt_iff {n : Nat} {rows : List (List Int)} {s : Say} : s ∈ LSt n rows ↔ s ∈ SAYS n ∧ rows.any (fun r => barsT s r) = false ∧ ∀ t ∈ SAYS n, part t s = true → rows.any (fun r => barsT t r) = false → t = s := by
  constructor
  · intro h
    obtain ⟨h1, h2⟩ := LSt_mem h
    refine ⟨h1, h2, fun t ht hp hb => ?_⟩
    have hsub := part_sub ht h1 hp
    by_cases c : t.length = s.length
    · exact hsub.eq_of_length c
    · have hlt : t.length < s.length := by have := hsub.length_le; omega
      rcases foldl_split rows _ _ s h with h | ⟨l1, l2, e, hn⟩
      · cases h
      · have hsrt := AS_sorted n
        rw [e, List.pairwise_append, List.pairwise_cons] at hsrt
        have hm : t ∈ AS n := AS_mem.mpr ht
        rw [e] at hm
        rcases List.mem_append.mp hm with hm | hm
        · obtain ⟨u, hu, hpu⟩ := foldl_cover rows l1 [] t hm hb
          have := hn u hu
          rw [part_trans hpu hp] at this
          cases this
        · rcases List.mem_cons.mp hm with e2 | hm
          · exact e2
          · have := hsrt.2.1.1 t hm
            omega
  · rintro ⟨h1, h2, h3⟩
    obtain ⟨t, ht, hp⟩ := foldl_cover rows (AS n) [] s (AS_mem.mpr h1) h2
    have ht : t ∈ LSt n rows := ht
    obtain ⟨h4, h5⟩ := LSt_mem ht
    rw [← h3 t h4 hp h5]
    exact ht
/-! ### yes and no exchanged at a question -/
def fA (q : Int) (a : Int × Int) : Int × Int := if a.1 = q then (a.1, 1 - a.2) else a
theorem fA_fst (q : Int) (a : Int × Int) : (fA q a).1 = a.1 := by unfold fA; split <;> rfl
theorem fA_fA (q : Int) (a : Int × Int) : fA q (fA q a) = a := by
  obtain ⟨x, y⟩ := a
  unfold fA
  by_cases c : x = q
  · rw [if_pos c]
    simp only
    rw [if_pos c]
    exact congrArg (Prod.mk x) (by omega)
  · rw [if_neg c]
    simp only
    rw [if_neg c]
def fS (q : Int) (s : Say) : Say := s.map (fA q)
theorem fS_fS (q : Int) (s : Say) : fS q (fS q s) = s := by
  unfold fS
  rw [List.map_map]
  have : (fA q ∘ fA q) = id := funext fun a => fA_fA q a
  rw [this, List.map_id]
theorem fS_mem {q : Int} {n : Nat} {s : Say} (h : s ∈ SAYS n) : fS q s ∈ SAYS n := by
  obtain ⟨h1, h2⟩ := SAYS_iff.mp h
  refine SAYS_iff.mpr ⟨?_, fun a ha => ?_⟩
  · have : (fS q s).map Prod.fst = s.map Prod.fst := by
      unfold fS
      rw [List.map_map]
      exact List.map_congr_left fun a _ => fA_fst q a
    rw [this]
    exact h1
  · obtain ⟨b, hb, rfl⟩ := List.mem_map.mp ha
    have := h2 b hb
    rw [fA_fst]
    refine ⟨this.1, ?_⟩
    unfold fA
    split
    · dsimp only
      omega
    · exact this.2
theorem fS_part {q : Int} {t s : Say} (h : part t s = true) : part (fS q t) (fS q s) = true := part_iff.mpr fun a ha => by
  obtain ⟨b, hb, rfl⟩ := List.mem_map.mp ha
  exact List.mem_map.mpr ⟨b, part_iff.mp h b hb, rfl⟩
def flip (q x : Int) (r : List Int) : List Int := r.set q.toNat (x - r.getD q.toNat 0)
theorem flip_at {q x i : Int} {r : List Int} (hq : 0 ≤ q ∧ q < r.length) (hi : 0 ≤ i) : (flip q x r).getD i.toNat 0 = if i = q then x - r.getD q.toNat 0 else r.getD i.toNat 0 := by
  unfold flip
  rw [List.getD_eq_getElem?_getD]
  by_cases c : i = q
  · rw [if_pos c, c, List.getElem?_set_self (by omega)]
    rfl
  · rw [if_neg c, List.getElem?_set_ne (by omega), ← List.getD_eq_getElem?_getD]
theorem fS_bars {q : Int} {s : Say} {r : List Int} (hq : 0 ≤ q ∧ q < r.length) (h : ∀ a ∈ s, 0 ≤ a.1) : barsT (fS q s) (flip q 1 r) = barsT s r := by
  unfold barsT fS
  rw [List.all_map]
  rw [Bool.eq_iff_iff, List.all_eq_true, List.all_eq_true]
  refine forall_congr' fun a => forall_congr' fun ha => ?_
  show decide ((flip q 1 r).getD (fA q a).1.toNat 0 = (fA q a).2) = true ↔ _
  rw [fA_fst, flip_at hq (h a ha), decide_eq_true_eq, decide_eq_true_eq]
  unfold fA
  by_cases c : a.1 = q
  · rw [if_pos c, if_pos c, c]
    dsimp only
    omega
  · rw [if_neg c, if_neg c]
theorem any_turned {q : Int} {n : Nat} {rows T : List (List Int)} (hT : T.Perm (rows.map (flip q 1))) (hq : 0 ≤ q ∧ q < n) (hr : ∀ r ∈ rows, r.length = n) {s : Say} (hs : s ∈ SAYS n) : T.any (fun r => barsT (fS q s) r) = rows.any (fun r => barsT s r) := by
  rw [hT.any_eq, List.any_map]
  rw [Bool.eq_iff_iff, List.any_eq_true, List.any_eq_true]
  have hp : ∀ a ∈ s, 0 ≤ a.1 := fun a ha => ((SAYS_iff.mp hs).2 a ha).1.1
  constructor
  · rintro ⟨r, hr', h⟩
    have h : barsT (fS q s) (flip q 1 r) = true := h
    rw [fS_bars (by rw [hr r hr']; exact hq) hp] at h
    exact ⟨r, hr', h⟩
  · rintro ⟨r, hr', h⟩
    refine ⟨r, hr', ?_⟩
    show barsT (fS q s) (flip q 1 r) = true
    rw [fS_bars (by rw [hr r hr']; exact hq) hp]
    exact h
theorem LSt_turned {q : Int} {n : Nat} {rows T : List (List Int)} (hT : T.Perm (rows.map (flip q 1))) (hq : 0 ≤ q ∧ q < n) (hr : ∀ r ∈ rows, r.length = n) {s : Say} : fS q s ∈ LSt n T ↔ s ∈ LSt n rows := by
  have key : ∀ {s : Say}, s ∈ SAYS n → T.any (fun r => barsT (fS q s) r) = rows.any (fun r => barsT s r) := fun hs => any_turned hT hq hr hs
  rw [LSt_iff, LSt_iff]
  constructor
  · rintro ⟨h1, h2, h3⟩
    have h1' : s ∈ SAYS n := by have := fS_mem (q := q) h1; rwa [fS_fS] at this
    refine ⟨h1', by rw [← key h1']; exact h2, fun t ht hp hb => ?_⟩
    have := h3 (fS q t) (fS_mem ht) (fS_part hp) (by rw [key ht]; exact hb)
    have := congrArg (fS q) this
    rwa [fS_fS, fS_fS] at this
  · rintro ⟨h1, h2, h3⟩
    refine ⟨fS_mem h1, by rw [key h1]; exact h2, fun t ht hp hb => ?_⟩
    have ht' := fS_mem (q := q) ht
    have e : fS q t = s := h3 (fS q t) ht' (by have := fS_part (q := q) hp; rwa [fS_fS] at this) (by
      have := key ht'
      rw [fS_fS] at this
      rw [← this]; exact hb)
    rw [← e, fS_fS]
theorem lo_flip {size q : Int} {n : Nat} {p : Quo} (hq : 0 ≤ q ∧ q < p.length) : ∀ s : Say, Marks n s → lo size (flip q (size + 1) p) (fS q s) = lo size p s
  | [], _ => rfl
  | a :: s, h => by
    have ha := h a (List.mem_cons_self ..)
    have ih := lo_flip (size := size) hq s fun b hb => h b (List.mem_cons_of_mem _ hb)
    have e : fS q (a :: s) = fA q a :: fS q s := rfl
    rw [e, lo_cons, lo_cons, ih, fA_fst]
    have hf : at0 (flip q (size + 1) p) a.1 = if a.1 = q then size + 1 - at0 p q else at0 p a.1 := flip_at hq ha.1.1
    rw [hf]
    unfold fA
    by_cases c : a.1 = q
    · rw [if_pos c, if_pos c, c]
      dsimp only
      rcases ha.2 with e | e
      · rw [e, if_pos (by decide), if_neg (by decide)]; omega
      · rw [e, if_neg (by decide), if_pos rfl]; omega
    · rw [if_neg c, if_neg c]
theorem QS_turned {size q : Int} {n : Nat} {rows T : List (List Int)} {p : Quo} (hT : T.Perm (rows.map (flip q 1))) (hq : 0 ≤ q ∧ q < n) (hr : ∀ r ∈ rows, r.length = n) (hp : p.length = n) : QS size (flip q (size + 1) p) (least n T) = QS size p (least n rows) := by
  have hq' : 0 ≤ q ∧ q < p.length := by rw [hp]; exact hq
  rw [Bool.eq_iff_iff, QS_iff, QS_iff]
  constructor
  · intro h s hs
    rw [least_mem] at hs
    have hm := (SAYS_iff.mp (LSt_mem hs).1).2
    have := h (fS q s) (least_mem.mpr ((LSt_turned hT hq hr).mpr hs))
    rwa [lo_flip hq' s hm] at this
  · intro h s hs
    rw [least_mem] at hs
    have hs2 : fS q s ∈ LSt n rows := (LSt_turned hT hq hr).mp (by rw [fS_fS]; exact hs)
    have hm := (SAYS_iff.mp (LSt_mem hs2).1).2
    have := h (fS q s) (least_mem.mpr hs2)
    rw [← lo_flip hq' (fS q s) hm, fS_fS] at this
    exact this
end L2.PV
set_option Elab.async false
set_option linter.all false
set_option maxRecDepth 100000
set_option maxHeartbeats 4000000
namespace L2.PV
open PySem PySem.Spec PyProof.Rows
open Enc (enc)
/-! ### the program of this law -/
def top (i : Nat) : Stmt := (PySem.Challenge.pw_judgedrows_k56_main_all_quotas_that_do).main.body.getD i (.Pass ⟨0, 0, 0, 0⟩)
def d_every_saying : DefE := ⟨"every_saying", ⟨1, none, false⟩, ["many", "found", "question", "size", "own", "mark"], ["many"], [.p, .p, .p, .p, .p, .p], false, defArgs (top 2), defBody (top 2), defScope (top 2)⟩
def d_is_part : DefE := ⟨"is_part", ⟨2, none, false⟩, ["one", "other", "own"], ["one", "other"], [.p, .p, .p], false, defArgs (top 3), defBody (top 3), defScope (top 3)⟩
def d_bars : DefE := ⟨"bars", ⟨2, none, false⟩, ["saying", "row", "question", "mark"], ["saying", "row"], [.p, .p, .p, .p], false, defArgs (top 4), defBody (top 4), defScope (top 4)⟩
def d_least_sayings : DefE := ⟨"least_sayings", ⟨2, none, false⟩, ["many", "rows", "saying", "found", "own_rows", "row", "own"], ["many", "rows"], [.p, .p, .p, .m, .p, .p, .p], false, defArgs (top 5), defBody (top 5), defScope (top 5)⟩
def d_left_over : DefE := ⟨"left_over", ⟨3, none, false⟩, ["size", "quotas", "saying", "question", "mark"], ["size", "quotas", "saying"], [.p, .p, .p, .p, .p], false, defArgs (top 7), defBody (top 7), defScope (top 7)⟩
def d_quota_breach : DefE := ⟨"quota_breach", ⟨4, none, false⟩, ["many", "rows", "size", "quotas", "found", "own"], ["many", "rows", "size", "quotas"], [.p, .p, .p, .p, .p, .p], false, defArgs (top 8), defBody (top 8), defScope (top 8)⟩
def d_quotas_sound : DefE := ⟨"quotas_sound", ⟨4, none, false⟩, ["many", "rows", "size", "quotas"], ["many", "rows", "size", "quotas"], [.p, .p, .p, .p], false, defArgs (top 9), defBody (top 9), defScope (top 9)⟩
def d_sound_quotas : DefE := ⟨"sound_quotas", ⟨3, none, false⟩, ["many", "rows", "size", "turn", "some", "found", "own", "quota", "saying"], ["many", "rows", "size"], [.p, .p, .p, .p, .p, .p, .p, .p, .p], false, defArgs (top 10), defBody (top 10), defScope (top 10)⟩
def d_one_quota : DefE := ⟨"one_quota", ⟨3, none, false⟩, ["many", "rows", "size", "quota"], ["many", "rows", "size"], [.p, .p, .p, .p], false, defArgs (top 11), defBody (top 11), defScope (top 11)⟩
def d__law_box : DefE := ⟨"_law_box", ⟨2, none, true⟩, ["script", "k", "cell"], ["script", "k"], [.p, .p, .p], false, defArgs (top 13), defBody (top 13), defScope (top 13)⟩
def d__law_take : DefE := ⟨"_law_take", ⟨2, some 0, false⟩, ["urn", "below", "once", "far", "twice", "drawn"], ["urn", "below"], [.io, .p, .p, .p, .p, .p], false, defArgs (top 14), defBody (top 14), defScope (top 14)⟩
def d__law_cells : DefE := ⟨"_law_cells", ⟨2, none, false⟩, ["script", "many", "cells", "k", "cell", "at"], ["script", "many"], [.p, .p, .m, .p, .p, .p], false, defArgs (top 15), defBody (top 15), defScope (top 15)⟩
def d__law_same : DefE := ⟨"_law_same", ⟨2, none, false⟩, ["got", "goal", "mine", "own"], ["got", "goal"], [.p, .p, .p, .p], false, defArgs (top 16), defBody (top 16), defScope (top 16)⟩
def d__law_lists : DefE := ⟨"_law_lists", ⟨1, none, false⟩, ["matter", "own"], ["matter"], [.p, .p], false, defArgs (top 17), defBody (top 17), defScope (top 17)⟩
def d__law_all_rows : DefE := ⟨"_law_all_rows", ⟨1, none, false⟩, ["many", "found", "k", "row", "mark"], ["many"], [.p, .p, .p, .p, .p], false, defArgs (top 18), defBody (top 18), defScope (top 18)⟩
def d__law_some_rows : DefE := ⟨"_law_some_rows", ⟨2, some 0, false⟩, ["urn", "many", "whole", "low", "row"], ["urn", "many"], [.io, .p, .p, .p, .p], false, defArgs (top 19), defBody (top 19), defScope (top 19)⟩
def d__law_bars : DefE := ⟨"_law_bars", ⟨2, none, false⟩, ["saying", "row", "question", "mark"], ["saying", "row"], [.p, .p, .p, .p], false, defArgs (top 20), defBody (top 20), defScope (top 20)⟩
def d__law_part : DefE := ⟨"_law_part", ⟨2, none, false⟩, ["one", "other", "own"], ["one", "other"], [.p, .p, .p], false, defArgs (top 21), defBody (top 21), defScope (top 21)⟩
def d__law_all_sayings : DefE := ⟨"_law_all_sayings", ⟨1, none, false⟩, ["many", "found", "question", "size", "own", "mark"], ["many"], [.p, .p, .p, .p, .p, .p], false, defArgs (top 22), defBody (top 22), defScope (top 22)⟩
def d__law_least : DefE := ⟨"_law_least", ⟨2, none, false⟩, ["many", "rows", "found", "saying", "row", "own"], ["many", "rows"], [.p, .p, .m, .p, .p, .p], false, defArgs (top 23), defBody (top 23), defScope (top 23)⟩
def d__law_pairs : DefE := ⟨"_law_pairs", ⟨2, none, false⟩, ["one", "other", "found", "near", "far"], ["one", "other"], [.p, .p, .p, .p, .p], false, defArgs (top 24), defBody (top 24), defScope (top 24)⟩
def d__law_sum_right : DefE := ⟨"_law_sum_right", ⟨3, none, false⟩, ["size", "quotas", "sayings", "own", "q", "mark"], ["size", "quotas", "sayings"], [.p, .p, .p, .p, .p, .p], false, defArgs (top 25), defBody (top 25), defScope (top 25)⟩
def d_law : DefE := ⟨"law", ⟨1, none, false⟩, ["script", "urn", "many", "rows", "least", "size", "every", "q", "good", "friends", "turned", "own", "ones", "other", "wide", "all_so", "one_so", "quota", "row", "saying", "mark", "k"], ["script"], [.p, .m, .p, .p, .p, .p, .p, .p, .p, .p, .p, .p, .p, .p, .p, .p, .p, .p, .p, .p, .p, .p], false, defArgs (top 26), defBody (top 26), defScope (top 26)⟩
def pg : Pg := ⟨[d_every_saying, d_is_part, d_bars, d_least_sayings, d_left_over, d_quota_breach, d_quotas_sound, d_sound_quotas, d_one_quota, d__law_box, d__law_take, d__law_cells, d__law_same, d__law_lists, d__law_all_rows, d__law_some_rows, d__law_bars, d__law_part, d__law_all_sayings, d__law_least, d__law_pairs, d__law_sum_right, d_law],
  [("MARKS", .tuple [.int 0, .int 1])],
  ["abs", "all", "any", "bool", "enumerate", "int", "isinstance", "len", "list", "range", "sorted", "str", "sum", "tuple", "zip"]⟩
theorem pg_wf : pg.defs.all DefE.wf = true := by kernel_rfl
theorem pg_nd : (pg.defs.map (·.x)).Nodup := by decide +kernel
theorem bn_every_saying : BindN d_every_saying := fun _ _ _ _ _ _ us hl => match us, hl with | [_], _ => rfl
theorem bn_is_part : BindN d_is_part := fun _ _ _ _ _ _ us hl => match us, hl with | [_, _], _ => rfl
theorem bn_bars : BindN d_bars := fun _ _ _ _ _ _ us hl => match us, hl with | [_, _], _ => rfl
theorem bn_least_sayings : BindN d_least_sayings := fun _ _ _ _ _ _ us hl => match us, hl with | [_, _], _ => rfl
theorem bn_left_over : BindN d_left_over := fun _ _ _ _ _ _ us hl => match us, hl with | [_, _, _], _ => rfl
theorem bn_quota_breach : BindN d_quota_breach := fun _ _ _ _ _ _ us hl => match us, hl with | [_, _, _, _], _ => rfl
theorem bn_quotas_sound : BindN d_quotas_sound := fun _ _ _ _ _ _ us hl => match us, hl with | [_, _, _, _], _ => rfl
theorem bn_sound_quotas : BindN d_sound_quotas := fun _ _ _ _ _ _ us hl => match us, hl with | [_, _, _], _ => rfl
theorem bn_one_quota : BindN d_one_quota := fun _ _ _ _ _ _ us hl => match us, hl with | [_, _, _], _ => rfl
theorem bn__law_box : BindN d__law_box := fun _ _ _ _ _ _ us hl => match us, hl with | [_, _], _ => rfl
theorem bn__law_take : BindN d__law_take := fun _ _ _ _ _ _ us hl => match us, hl with | [_, _], _ => rfl
theorem bn__law_cells : BindN d__law_cells := fun _ _ _ _ _ _ us hl => match us, hl with | [_, _], _ => rfl
theorem bn__law_same : BindN d__law_same := fun _ _ _ _ _ _ us hl => match us, hl with | [_, _], _ => rfl
theorem bn__law_lists : BindN d__law_lists := fun _ _ _ _ _ _ us hl => match us, hl with | [_], _ => rfl
theorem bn__law_all_rows : BindN d__law_all_rows := fun _ _ _ _ _ _ us hl => match us, hl with | [_], _ => rfl
theorem bn__law_some_rows : BindN d__law_some_rows := fun _ _ _ _ _ _ us hl => match us, hl with | [_, _], _ => rfl
theorem bn__law_bars : BindN d__law_bars := fun _ _ _ _ _ _ us hl => match us, hl with | [_, _], _ => rfl
theorem bn__law_part : BindN d__law_part := fun _ _ _ _ _ _ us hl => match us, hl with | [_, _], _ => rfl
theorem bn__law_all_sayings : BindN d__law_all_sayings := fun _ _ _ _ _ _ us hl => match us, hl with | [_], _ => rfl
theorem bn__law_least : BindN d__law_least := fun _ _ _ _ _ _ us hl => match us, hl with | [_, _], _ => rfl
theorem bn__law_pairs : BindN d__law_pairs := fun _ _ _ _ _ _ us hl => match us, hl with | [_, _], _ => rfl
theorem bn__law_sum_right : BindN d__law_sum_right := fun _ _ _ _ _ _ us hl => match us, hl with | [_, _, _], _ => rfl
theorem bn_law : BindN d_law := fun _ _ _ _ _ _ us hl => match us, hl with | [_], _ => rfl
theorem all_cons {α : Type} {P : α → Prop} {a : α} {l : List α} (h : P a) (t : ∀ b ∈ l, P b) : ∀ b ∈ a :: l, P b := fun b hb => by
  rcases List.mem_cons.mp hb with rfl | hb
  · exact h
  · exact t b hb
theorem pg_b : ∀ d ∈ pg.defs, BindN d := all_cons bn_every_saying (all_cons bn_is_part (all_cons bn_bars (all_cons bn_least_sayings (all_cons bn_left_over (all_cons bn_quota_breach (all_cons bn_quotas_sound (all_cons bn_sound_quotas (all_cons bn_one_quota (all_cons bn__law_box (all_cons bn__law_take (all_cons bn__law_cells (all_cons bn__law_same (all_cons bn__law_lists (all_cons bn__law_all_rows (all_cons bn__law_some_rows (all_cons bn__law_bars (all_cons bn__law_part (all_cons bn__law_all_sayings (all_cons bn__law_least (all_cons bn__law_pairs (all_cons bn__law_sum_right (all_cons bn_law ((fun _ h => nomatch h))))))))))))))))))))))))
abbrev RW : PySem.W.OpenRow := PySem.W.OpenLaw.row PySem.Challenge.rw_judgedrows_k56_main_all_quotas_that_do
def others0 : List Str := ["__name__", "MARKS", "every_saying", "is_part", "bars", "least_sayings", "left_over", "quota_breach", "quotas_sound", "sound_quotas", "one_quota", "_law_box", "_law_take", "_law_cells", "_law_same", "_law_lists", "_law_all_rows", "_law_some_rows", "_law_bars", "_law_part", "_law_all_sayings", "_law_least", "_law_pairs", "_law_sum_right"]
def others : List Str := others0
abbrev lawAt : Nat := 26
theorem m_every_saying (φ : Str → FnSem) : bodyM pg φ d_every_saying = sSeq (sAsg (cLst (cCons (cTup (cNil)) (cNil))) (aName 1)) (sSeq (sFor (iR1 (cCons (cVar 0) (cNil))) (aName 2) (sSeq (sAsg (cBin hAdd (cVar 1) (cLc2 (iE (cVar 1)) (aName 4) (M.pure true) (cIn (iE (cConst (.tuple [.int 0, .int 1]))) (aName 5) (M.pure true) (cTup (cStar (cVar 4) (cCons (cTup (cCons (cVar 2) (cCons (cVar 5) (cNil)))) (cNil)))) [5]) [4, 5])) (aName 1)) (sNil))) (sSeq (sRet (cLc (iE (cCB hSorted1 (cCons (cLc (iE (cVar 1)) (aName 4) (M.pure true) (cTup (cCons (cCB hLen (cCons (cVar 4) (cNil))) (cCons (cVar 4) (cNil)))) [4]) (cNil)))) (aTup 2 (aCons (aName 3) (aCons (aName 4) (aNil)))) (M.pure true) (cVar 4) [3, 4])) (sNil))) := by kernel_rfl
theorem m_is_part (φ : Str → FnSem) : bodyM pg φ d_is_part = sSeq (sRet (cCB hAll (cCons (cLc (iE (cVar 0)) (aName 2) (M.pure true) (cBin hIn (cVar 2) (cVar 1)) [2]) (cNil)))) (sNil) := by kernel_rfl
theorem m_bars (φ : Str → FnSem) : bodyM pg φ d_bars = sSeq (sRet (cCB hAll (cCons (cLc (iE (cVar 0)) (aTup 2 (aCons (aName 2) (aCons (aName 3) (aNil)))) (M.pure true) (cBin hEq (cBin hIx (cVar 1) (cVar 2)) (cVar 3)) [2, 3]) (cNil)))) (sNil) := by kernel_rfl
theorem m_least_sayings (φ : Str → FnSem) : bodyM pg φ d_least_sayings = sSeq (sAsgs (cCons (cLst (cNil)) (cCons (cLc (iE (cVar 1)) (aName 5) (M.pure true) (cCB hTuple (cCons (cVar 5) (cNil))) [5]) (cNil))) [3, 4]) (sSeq (sFor (iE (cCall (φ "every_saying") (cCons (cVar 0) (cNil)))) (aName 2) (sSeq (sIf (bAnd (bNot (toB (cCB hAny (cCons (cBorO (cLc (iE (cVar 3)) (aName 6) (M.pure true) (cCall (φ "is_part") (cCons (cVar 6) (cCons (cVar 2) (cNil)))) [6])) (cNil))))) (bNot (toB (cCB hAny (cCons (cLc (iE (cVar 4)) (aName 5) (M.pure true) (cCall (φ "bars") (cCons (cVar 2) (cCons (cVar 5) (cNil)))) [5]) (cNil)))))) (sSeq (sExpr (cMut 3 uApp (cCons (cVar 2) (cNil)))) (sNil)) (sNil)) (sNil))) (sSeq (sRet (cCB hTuple (cCons (cBorO (cCB hSorted1 (cCons (cVar 3) (cNil)))) (cNil)))) (sNil))) := by kernel_rfl
theorem m_left_over (φ : Str → FnSem) : bodyM pg φ d_left_over = sSeq (sRet (cCB hSum (cCons (cLc (iE (cVar 2)) (aTup 2 (aCons (aName 3) (aCons (aName 4) (aNil)))) (M.pure true) (cIf (bCmp hEq (cVar 4) (cConst (.int 1))) (cBin hSub (cVar 0) (cBin hIx (cVar 1) (cVar 3))) (cBin hSub (cBin hIx (cVar 1) (cVar 3)) (cConst (.int 1)))) [3, 4]) (cNil)))) (sNil) := by kernel_rfl
theorem m_quota_breach (φ : Str → FnSem) : bodyM pg φ d_quota_breach = sSeq (sAsg (cLc (iE (cCall (φ "least_sayings") (cCons (cVar 0) (cCons (cVar 1) (cNil))))) (aName 5) (bCmp hGe (cCall (φ "left_over") (cCons (cVar 2) (cCons (cVar 3) (cCons (cVar 5) (cNil))))) (cVar 2)) (cVar 5) [5]) (aName 4)) (sSeq (sRet (cIf (bCmp hGt (cCB hLen (cCons (cVar 4) (cNil))) (cConst (.int 0))) (cBin hIx (cVar 4) (cConst (.int 0))) (cConst (.none)))) (sNil)) := by kernel_rfl
theorem m_quotas_sound (φ : Str → FnSem) : bodyM pg φ d_quotas_sound = sSeq (sRet (cBin hIs (cCall (φ "quota_breach") (cCons (cVar 0) (cCons (cVar 1) (cCons (cVar 2) (cCons (cVar 3) (cNil)))))) (cConst (.none)))) (sNil) := by kernel_rfl
theorem m_sound_quotas (φ : Str → FnSem) : bodyM pg φ d_sound_quotas = sSeq (sAsgs (cCons (cCall (φ "least_sayings") (cCons (cVar 0) (cCons (cVar 1) (cNil)))) (cCons (cLst (cCons (cTup (cNil)) (cNil))) (cNil))) [4, 5]) (sSeq (sFor (iR1 (cCons (cVar 0) (cNil))) (aName 3) (sSeq (sAsg (cLc2 (iE (cVar 5)) (aName 6) (M.pure true) (cIn (iR2 (cCons (cConst (.int 1)) (cCons (cBin hAdd (cVar 2) (cConst (.int 1))) (cNil)))) (aName 7) (M.pure true) (cTup (cStar (cVar 6) (cCons (cVar 7) (cNil)))) [7]) [6, 7]) (aName 5)) (sNil))) (sSeq (sRet (cLc (iE (cVar 5)) (aName 6) (toB (cCB hAll (cCons (cLc (iE (cVar 4)) (aName 8) (M.pure true) (cBin hLt (cCall (φ "left_over") (cCons (cVar 2) (cCons (cVar 6) (cCons (cVar 8) (cNil))))) (cVar 2)) [8]) (cNil)))) (cVar 6) [6])) (sNil))) := by kernel_rfl
theorem m_one_quota (φ : Str → FnSem) : bodyM pg φ d_one_quota = sSeq (sRet (cCB hTuple (cCons (cLc (iR2 (cCons (cConst (.int 1)) (cCons (cBin hAdd (cVar 2) (cConst (.int 1))) (cNil)))) (aName 3) (toB (cCall (φ "quotas_sound") (cCons (cVar 0) (cCons (cVar 1) (cCons (cVar 2) (cCons (cBin hMul (cTup (cCons (cVar 3) (cNil))) (cVar 0)) (cNil))))))) (cVar 3) [3]) (cNil)))) (sNil) := by kernel_rfl
theorem m__law_box (φ : Str → FnSem) : bodyM pg φ d__law_box = sSeq (sAsg (cIf (bCmp hLt (cVar 1) (cCB hLen (cCons (cVar 0) (cNil)))) (cBin hIx (cVar 0) (cVar 1)) (cConst (.int 0))) (aName 2)) (sSeq (sRet (cLst (cCons (cBin hMul (cCB hAbs (cCons (cVar 2) (cNil))) (cCB hInt (cCons (cBin hGe (cCB hAbs (cCons (cVar 2) (cNil))) (cBin hPow (cConst (.int 10)) (cConst (.int 18)))) (cNil)))) (cCons (cBin hAdd (cBin hAdd (cBin hMod (cCB hInt (cCons (cVar 2) (cNil))) (cConst (.int 2305843009213693951))) (cBin hMul (cConst (.int 41183)) (cVar 1))) (cConst (.int 43684788))) (cCons (cConst (.int 0)) (cNil)))))) (sNil)) := by kernel_rfl
theorem m__law_take (φ : Str → FnSem) : bodyM pg φ d__law_take = sSeq (sIf (bCmp hGt (cBor (cBin hIx (cVar 0) (cConst (.int 0)))) (cConst (.int 0))) (sSeq (sAsg (cBin hMod (cCB hInt (cCons (cBor (cBin hIx (cVar 0) (cConst (.int 0)))) (cNil))) (cVar 1)) (aName 5)) (sSeq (sSetIx 0 (cBin hDiv (cBor (cBin hIx (cVar 0) (cConst (.int 0)))) (cVar 1)) (cConst (.int 0))) (sSeq (sRet (cVar 5)) (sNil)))) (sNil)) (sSeq (sSetIx 0 (cBin hAdd (cBor (cBin hIx (cVar 0) (cConst (.int 2)))) (cConst (.int 1))) (cConst (.int 2))) (sSeq (sAsg (cBin hMod (cCB hInt (cCons (cBin hMul (cBin hAdd (cBor (cBin hIx (cVar 0) (cConst (.int 1)))) (cBin hMul (cConst (.int 48271)) (cBor (cBin hIx (cVar 0) (cConst (.int 2)))))) (cBin hAdd (cConst (.int 39373)) (cBor (cBin hIx (cVar 0) (cConst (.int 2)))))) (cNil))) (cConst (.int 2147483647))) (aName 2)) (sSeq (sAsg (cBin hAdd (cBin hMod (cCB hInt (cCons (cVar 2) (cNil))) (cConst (.int 40009))) (cConst (.int 7))) (aName 3)) (sSeq (sAsg (cBin hMod (cCB hInt (cCons (cBin hMul (cBin hAdd (cBin hAdd (cVar 2) (cBor (cBin hIx (cVar 0) (cConst (.int 2))))) (cBin hDiv (cBor (cBin hIx (cVar 0) (cConst (.int 1)))) (cConst (.int 1000003)))) (cVar 3)) (cNil))) (cConst (.int 2147483629))) (aName 4)) (sSeq (sRet (cBin hMod (cCB hInt (cCons (cBin hDiv (cBin hMod (cCB hInt (cCons (cBin hAdd (cBin hMul (cVar 4) (cConst (.int 48271))) (cVar 2)) (cNil))) (cConst (.int 2147483587))) (cConst (.int 64))) (cNil))) (cVar 1))) (sNil)))))) := by kernel_rfl
theorem m__law_cells (φ : Str → FnSem) : bodyM pg φ d__law_cells = sSeq (sAsg (cOr (cCB hList (cCons (cSl (cVar 0) (pNone) (pSome (cVar 1))) (cNil))) (cLst (cCons (cConst (.int 0)) (cNil)))) (aName 2)) (sSeq (sFor (iEnumD (cCons (cSl (cVar 0) (pSome (cVar 1)) (pSome (cConst (.int 63)))) (cNil))) (aTup 2 (aCons (aName 3) (aCons (aName 4) (aNil)))) (sSeq (sAsg (cBin hMod (cCB hInt (cCons (cVar 3) (cNil))) (cBor (cCB hLen (cCons (cVar 2) (cNil))))) (aName 5)) (sSeq (sSetIx 2 (cBin hAdd (cBor (cBin hIx (cVar 2) (cVar 5))) (cBin hMul (cVar 4) (cBin hAdd (cVar 3) (cConst (.int 2))))) (cVar 5)) (sNil)))) (sSeq (sRet (cMove 2)) (sNil))) := by kernel_rfl
theorem m__law_same (φ : Str → FnSem) : bodyM pg φ d__law_same = sSeq (sIf (toB (cIsi ["list", "tuple"] (cVar 1))) (sSeq (sIf (bOr (bCmp hNe (cIsi ["list"] (cVar 0)) (cIsi ["list"] (cVar 1))) (bCmp hNe (cIsi ["tuple"] (cVar 0)) (cIsi ["tuple"] (cVar 1)))) (sSeq (sRet (cConst (.bool false))) (sNil)) (sNil)) (sSeq (sRet (cAnd (cBin hEq (cCB hLen (cCons (cVar 0) (cNil))) (cCB hLen (cCons (cVar 1) (cNil)))) (cCB hAll (cCons (cLc (iZipD (cCons (cVar 0) (cCons (cVar 1) (cNil)))) (aTup 2 (aCons (aName 2) (aCons (aName 3) (aNil)))) (M.pure true) (cCall (φ "_law_same") (cCons (cVar 2) (cCons (cVar 3) (cNil)))) [2, 3]) (cNil))))) (sNil))) (sNil)) (sSeq (sIf (bOr (bCmp hIs (cVar 1) (cConst (.none))) (toB (cIsi ["bool", "str"] (cVar 1)))) (sSeq (sRet (cAnd (cBin hEq (cVar 0) (cVar 1)) (cAnd (cBin hEq (cIsi ["str"] (cVar 0)) (cIsi ["str"] (cVar 1))) (cAnd (cBin hEq (cIsi ["bool"] (cVar 0)) (cIsi ["bool"] (cVar 1))) (cBin hEq (cBin hIs (cVar 0) (cConst (.none))) (cBin hIs (cVar 1) (cConst (.none)))))))) (sNil)) (sNil)) (sSeq (sRet (cAnd (cIsi ["int"] (cVar 0)) (cAnd (cNot (cIsi ["bool"] (cVar 0))) (cBin hEq (cVar 0) (cVar 1))))) (sNil))) := by kernel_rfl
theorem m__law_lists (φ : Str → FnSem) : bodyM pg φ d__law_lists = sSeq (sRet (cIf (toB (cIsi ["list", "tuple"] (cVar 0))) (cLc (iE (cVar 0)) (aName 1) (M.pure true) (cCall (φ "_law_lists") (cCons (cVar 1) (cNil))) [1]) (cVar 0))) (sNil) := by kernel_rfl
theorem m__law_all_rows (φ : Str → FnSem) : bodyM pg φ d__law_all_rows = sSeq (sAsg (cLst (cCons (cTup (cNil)) (cNil))) (aName 1)) (sSeq (sFor (iR1 (cCons (cVar 0) (cNil))) (aName 2) (sSeq (sAsg (cLc (iE (cCall (φ "_law_pairs") (cCons (cVar 1) (cCons (cTup (cCons (cConst (.int 0)) (cCons (cConst (.int 1)) (cNil)))) (cNil))))) (aTup 2 (aCons (aName 3) (aCons (aName 4) (aNil)))) (M.pure true) (cBin hAdd (cVar 3) (cTup (cCons (cVar 4) (cNil)))) [3, 4]) (aName 1)) (sNil))) (sSeq (sRet (cVar 1)) (sNil))) := by kernel_rfl
theorem m__law_some_rows (φ : Str → FnSem) : bodyM pg φ d__law_some_rows = sSeq (sAsgs (cCons (cCall (φ "_law_all_rows") (cCons (cVar 1) (cNil))) (cCons (cBin hAdd (cConst (.int 1)) (cCallIo (φ "_law_take") 0 0 (cCons (cHole 0) (cCons (cConst (.int 3)) (cNil))))) (cNil))) [2, 3]) (sSeq (sRet (cCB hTuple (cCons (cLc (iE (cVar 2)) (aName 4) (bCmp hLt (cCallIo (φ "_law_take") 0 0 (cCons (cHole 0) (cCons (cConst (.int 4)) (cNil)))) (cVar 3)) (cVar 4) [4]) (cNil)))) (sNil)) := by kernel_rfl
theorem m__law_bars (φ : Str → FnSem) : bodyM pg φ d__law_bars = sSeq (sRet (cBin hEq (cLc (iE (cVar 0)) (aTup 2 (aCons (aName 2) (aCons (aName 3) (aNil)))) (bCmp hNe (cBin hIx (cVar 1) (cVar 2)) (cVar 3)) (cConst (.int 1)) [2, 3]) (cLst (cNil)))) (sNil) := by kernel_rfl
theorem m__law_part (φ : Str → FnSem) : bodyM pg φ d__law_part = sSeq (sRet (cBin hEq (cLc (iE (cVar 0)) (aName 2) (bCmp hNotIn (cVar 2) (cVar 1)) (cVar 2) [2]) (cLst (cNil)))) (sNil) := by kernel_rfl
theorem m__law_all_sayings (φ : Str → FnSem) : bodyM pg φ d__law_all_sayings = sSeq (sAsg (cLst (cCons (cTup (cNil)) (cNil))) (aName 1)) (sSeq (sFor (iR1 (cCons (cVar 0) (cNil))) (aName 2) (sSeq (sAsg (cBin hAdd (cVar 1) (cLc (iE (cCall (φ "_law_pairs") (cCons (cVar 1) (cCons (cTup (cCons (cConst (.int 0)) (cCons (cConst (.int 1)) (cNil)))) (cNil))))) (aTup 2 (aCons (aName 4) (aCons (aName 5) (aNil)))) (M.pure true) (cBin hAdd (cVar 4) (cTup (cCons (cTup (cCons (cVar 2) (cCons (cVar 5) (cNil)))) (cNil)))) [4, 5])) (aName 1)) (sNil))) (sSeq (sRet (cLc (iE (cCB hSorted1 (cCons (cLc (iE (cVar 1)) (aName 4) (M.pure true) (cTup (cCons (cCB hLen (cCons (cVar 4) (cNil))) (cCons (cVar 4) (cNil)))) [4]) (cNil)))) (aTup 2 (aCons (aName 3) (aCons (aName 4) (aNil)))) (M.pure true) (cVar 4) [3, 4])) (sNil))) := by kernel_rfl
theorem m__law_least (φ : Str → FnSem) : bodyM pg φ d__law_least = sSeq (sAsg (cLst (cNil)) (aName 2)) (sSeq (sFor (iE (cCall (φ "_law_all_sayings") (cCons (cVar 0) (cNil)))) (aName 3) (sSeq (sIf (bAnd (bCmp hEq (cLc (iE (cVar 1)) (aName 4) (toB (cCall (φ "_law_bars") (cCons (cVar 3) (cCons (cVar 4) (cNil))))) (cVar 4) [4]) (cLst (cNil))) (bCmp hEq (cBorO (cLc (iE (cVar 2)) (aName 5) (toB (cCall (φ "_law_part") (cCons (cVar 5) (cCons (cVar 3) (cNil))))) (cVar 5) [5])) (cLst (cNil)))) (sSeq (sExpr (cMut 2 uApp (cCons (cVar 3) (cNil)))) (sNil)) (sNil)) (sNil))) (sSeq (sRet (cCB hTuple (cCons (cBorO (cCB hSorted1 (cCons (cVar 2) (cNil)))) (cNil)))) (sNil))) := by kernel_rfl
theorem m__law_pairs (φ : Str → FnSem) : bodyM pg φ d__law_pairs = sSeq (sAsg (cLst (cNil)) (aName 2)) (sSeq (sFor (iE (cVar 0)) (aName 3) (sSeq (sAsg (cBin hAdd (cVar 2) (cLc (iE (cVar 1)) (aName 4) (M.pure true) (cTup (cCons (cVar 3) (cCons (cVar 4) (cNil)))) [4])) (aName 2)) (sNil))) (sSeq (sRet (cVar 2)) (sNil))) := by kernel_rfl
theorem m__law_sum_right (φ : Str → FnSem) : bodyM pg φ d__law_sum_right = sSeq (sRet (cBin hEq (cLc (iE (cVar 2)) (aName 3) (bCmp hGe (cCB hSum (cCons (cLc (iE (cVar 3)) (aTup 2 (aCons (aName 4) (aCons (aName 5) (aNil)))) (M.pure true) (cIf (bCmp hEq (cVar 5) (cConst (.int 1))) (cBin hSub (cVar 0) (cBin hIx (cVar 1) (cVar 4))) (cBin hSub (cBin hIx (cVar 1) (cVar 4)) (cConst (.int 1)))) [4, 5]) (cNil))) (cVar 0)) (cConst (.int 1)) [3]) (cLst (cNil)))) (sNil) := by kernel_rfl
theorem m_law (φ : Str → FnSem) : bodyM pg φ d_law = sSeq (sAsg (cCall (φ "_law_box") (cCons (cCall (φ "_law_cells") (cCons (cVar 0) (cCons (cConst (.int 1)) (cNil)))) (cCons (cConst (.int 0)) (cNil)))) (aName 1)) (sSeq (sAsg (cBin hAdd (cConst (.int 2)) (cCallIo (φ "_law_take") 1 0 (cCons (cHole 1) (cCons (cConst (.int 3)) (cNil))))) (aName 2)) (sSeq (sAsg (cCallIo (φ "_law_some_rows") 1 0 (cCons (cHole 1) (cCons (cVar 2) (cNil)))) (aName 3)) (sSeq (sAsg (cCall (φ "_law_least") (cCons (cVar 2) (cCons (cVar 3) (cNil)))) (aName 4)) (sSeq (sIf (bNot (toB (cCall (φ "_law_same") (cCons (cCall (φ "least_sayings") (cCons (cVar 2) (cCons (cVar 3) (cNil)))) (cCons (cVar 4) (cNil)))))) (sSeq (sRet (cConst (.bool false))) (sNil)) (sNil)) (sSeq (sAsg (cBin hAdd (cConst (.int 1)) (cCallIo (φ "_law_take") 1 0 (cCons (cHole 1) (cCons (cConst (.int 3)) (cNil))))) (aName 5)) (sSeq (sAsg (cLst (cCons (cTup (cNil)) (cNil))) (aName 6)) (sSeq (sFor (iR1 (cCons (cVar 2) (cNil))) (aName 7) (sSeq (sAsg (cLc (iE (cCall (φ "_law_pairs") (cCons (cVar 6) (cCons (cRgL (cCons (cConst (.int 1)) (cCons (cBin hAdd (cVar 5) (cConst (.int 1))) (cNil)))) (cNil))))) (aTup 2 (aCons (aName 11) (aCons (aName 17) (aNil)))) (M.pure true) (cBin hAdd (cVar 11) (cTup (cCons (cVar 17) (cNil)))) [11, 17]) (aName 6)) (sNil))) (sSeq (sAsg (cLc (iE (cVar 6)) (aName 11) (toB (cCall (φ "_law_sum_right") (cCons (cVar 5) (cCons (cVar 11) (cCons (cVar 4) (cNil)))))) (cVar 11) [11]) (aName 8)) (sSeq (sIf (bNot (toB (cCall (φ "_law_same") (cCons (cLst (cCons (cCall (φ "sound_quotas") (cCons (cVar 2) (cCons (cVar 3) (cCons (cVar 5) (cNil))))) (cCons (cCall (φ "sound_quotas") (cCons (cVar 2) (cCons (cCall (φ "_law_lists") (cCons (cVar 3) (cNil))) (cCons (cVar 5) (cNil))))) (cNil)))) (cCons (cLst (cCons (cVar 8) (cCons (cVar 8) (cNil)))) (cNil)))))) (sSeq (sRet (cConst (.bool false))) (sNil)) (sNil)) (sSeq (sFor (iR2 (cCons (cConst (.int 1)) (cCons (cConst (.int 7)) (cNil)))) (aName 9) (sSeq (sAsg (cCB hTuple (cCons (cLc (iR2 (cCons (cConst (.int 1)) (cCons (cBin hAdd (cVar 9) (cConst (.int 1))) (cNil)))) (aName 17) (toB (cCall (φ "_law_sum_right") (cCons (cVar 9) (cCons (cBin hMul (cTup (cCons (cVar 17) (cNil))) (cVar 2)) (cCons (cVar 4) (cNil)))))) (cVar 17) [17]) (cNil))) (aName 12)) (sSeq (sIf (bNot (toB (cCall (φ "_law_same") (cCons (cCall (φ "one_quota") (cCons (cVar 2) (cCons (cVar 3) (cCons (cVar 9) (cNil))))) (cCons (cVar 12) (cNil)))))) (sSeq (sRet (cConst (.bool false))) (sNil)) (sNil)) (sSeq (sIf (bCmp hGt (cVar 9) (cConst (.int 1))) (sSeq (sAsg (cBin hEq (cLc (iE (cVar 4)) (aName 11) (bCmp hGt (cCB hLen (cCons (cLc (iE (cVar 11)) (aTup 2 (aCons (aName 7) (aCons (aName 20) (aNil)))) (bCmp hEq (cVar 20) (cConst (.int 0))) (cConst (.int 1)) [7, 20]) (cNil))) (cConst (.int 1))) (cVar 11) [11]) (cLst (cNil))) (aName 15)) (sSeq (sAsg (cBin hEq (cLc (iE (cVar 4)) (aName 11) (bCmp hGt (cCB hLen (cCons (cLc (iE (cVar 11)) (aTup 2 (aCons (aName 7) (aCons (aName 20) (aNil)))) (bCmp hEq (cVar 20) (cConst (.int 1))) (cConst (.int 1)) [7, 20]) (cNil))) (cConst (.int 1))) (cVar 11) [11]) (cLst (cNil))) (aName 16)) (sSeq (sIf (bOr (bCmp hNe (cBin hIn (cVar 9) (cVar 12)) (cVar 15)) (bCmp hNe (cBin hIn (cConst (.int 1)) (cVar 12)) (cVar 16))) (sSeq (sRet (cConst (.bool false))) (sNil)) (sNil)) (sSeq (sIf (bAnd (bCmp hEq (cVar 9) (cConst (.int 3))) (bCmp hNe (cBin hIn (cConst (.int 2)) (cVar 12)) (cBin hEq (cLc (iE (cVar 4)) (aName 11) (bCmp hGt (cCB hLen (cCons (cVar 11) (cNil))) (cConst (.int 2))) (cVar 11) [11]) (cLst (cNil))))) (sSeq (sRet (cConst (.bool false))) (sNil)) (sNil)) (sNil))))) (sSeq (sIf (bCmp hNe (cVar 12) (cTup (cCons (cConst (.int 1)) (cNil)))) (sSeq (sRet (cConst (.bool false))) (sNil)) (sNil)) (sNil))) (sNil))))) (sSeq (sAsg (cCallIo (φ "_law_take") 1 0 (cCons (cHole 1) (cCons (cVar 2) (cNil)))) (aName 7)) (sSeq (sAsg (cCB hTuple (cCons (cCB hSorted1 (cCons (cLc (iE (cVar 3)) (aName 18) (M.pure true) (cBin hAdd (cBin hAdd (cSl (cVar 18) (pNone) (pSome (cVar 7))) (cTup (cCons (cBin hSub (cConst (.int 1)) (cBin hIx (cVar 18) (cVar 7))) (cNil)))) (cSl (cVar 18) (pSome (cBin hAdd (cVar 7) (cConst (.int 1)))) (pNone))) [18]) (cNil))) (cNil))) (aName 10)) (sSeq (sFor (iE (cSl (cVar 6) (pNone) (pSome (cConst (.int 30))))) (aName 11) (sSeq (sAsg (cBin hAdd (cBin hAdd (cSl (cVar 11) (pNone) (pSome (cVar 7))) (cTup (cCons (cBin hSub (cBin hAdd (cVar 5) (cConst (.int 1))) (cBin hIx (cVar 11) (cVar 7))) (cNil)))) (cSl (cVar 11) (pSome (cBin hAdd (cVar 7) (cConst (.int 1)))) (pNone))) (aName 13)) (sSeq (sIf (bNot (toB (cCall (φ "_law_same") (cCons (cCall (φ "quotas_sound") (cCons (cVar 2) (cCons (cVar 10) (cCons (cVar 5) (cCons (cVar 13) (cNil)))))) (cCons (cBin hIn (cVar 11) (cVar 8)) (cNil)))))) (sSeq (sRet (cConst (.bool false))) (sNil)) (sNil)) (sNil)))) (sSeq (sFor (iE (cSl (cVar 8) (pNone) (pSome (cConst (.int 20))))) (aName 11) (sSeq (sAsg (cCB hTuple (cCons (cLc (iE (cVar 11)) (aName 17) (M.pure true) (cBin hMul (cConst (.int 2)) (cVar 17)) [17]) (cNil))) (aName 14)) (sSeq (sIf (bAnd (bCmp hEq (cLc (iE (cVar 4)) (aName 19) (bCmp hEq (cCB hLen (cCons (cLc (iE (cVar 19)) (aTup 2 (aCons (aName 21) (aCons (aName 20) (aNil)))) (bCmp hEq (cVar 20) (cConst (.int 0))) (cConst (.int 1)) [21, 20]) (cNil))) (cConst (.int 0))) (cConst (.int 1)) [19]) (cCB hList (cCons (cLc (iE (cVar 4)) (aName 19) (M.pure true) (cConst (.int 1)) [19]) (cNil)))) (bCmp hIsNot (cCall (φ "quotas_sound") (cCons (cVar 2) (cCons (cVar 3) (cCons (cBin hMul (cConst (.int 2)) (cVar 5)) (cCons (cVar 14) (cNil)))))) (cConst (.bool true)))) (sSeq (sRet (cConst (.bool false))) (sNil)) (sNil)) (sNil)))) (sSeq (sRet (cConst (.bool true))) (sNil)))))))))))))))) := by kernel_rfl
theorem s__law_pairs (k : Nat) : pg.sem (k + 1) "_law_pairs" = runG ⟨2, none, false⟩ 5 (b_pairs (pg.sem k)) := sem_at (d := d__law_pairs) (by kernel_rfl) (m__law_pairs _)
theorem s__law_take (k : Nat) : pg.sem (k + 1) "_law_take" = runG ⟨2, some 0, false⟩ 6 (b_take (pg.sem k)) := sem_at (d := d__law_take) (by kernel_rfl) (m__law_take _)
theorem s__law_cells (k : Nat) : pg.sem (k + 1) "_law_cells" = runG ⟨2, none, false⟩ 6 (b_cells (pg.sem k)) := sem_at (d := d__law_cells) (by kernel_rfl) (m__law_cells _)
theorem s__law_box (k : Nat) : pg.sem (k + 1) "_law_box" = runG ⟨2, none, true⟩ 3 (b_box 41183 43684788 (pg.sem k)) := sem_at (d := d__law_box) (by kernel_rfl) (m__law_box _)
theorem s__law_same (k : Nat) : pg.sem (k + 1) "_law_same" = runG ⟨2, none, false⟩ 4 (b_same (pg.sem k)) := sem_at (d := d__law_same) (by kernel_rfl) (m__law_same _)
theorem s__law_lists (k : Nat) : pg.sem (k + 1) "_law_lists" = runG ⟨1, none, false⟩ 2 (b_lists (pg.sem k)) := sem_at (d := d__law_lists) (by kernel_rfl) (m__law_lists _)
theorem s__law_all_rows (k : Nat) : pg.sem (k + 1) "_law_all_rows" = runG ⟨1, none, false⟩ 5 (b_all_rows (pg.sem k)) := sem_at (d := d__law_all_rows) (by kernel_rfl) (m__law_all_rows _)
theorem s__law_some_rows (k : Nat) : pg.sem (k + 1) "_law_some_rows" = runG ⟨2, some 0, false⟩ 5 (b_some_rows (pg.sem k)) := sem_at (d := d__law_some_rows) (by kernel_rfl) (m__law_some_rows _)
theorem s__law_bars (k : Nat) : pg.sem (k + 1) "_law_bars" = runG ⟨2, none, false⟩ 4 (b_lbars (pg.sem k)) := sem_at (d := d__law_bars) (by kernel_rfl) (m__law_bars _)
theorem s__law_part (k : Nat) : pg.sem (k + 1) "_law_part" = runG ⟨2, none, false⟩ 3 (b_lpart (pg.sem k)) := sem_at (d := d__law_part) (by kernel_rfl) (m__law_part _)
theorem s__law_all_sayings (k : Nat) : pg.sem (k + 1) "_law_all_sayings" = runG ⟨1, none, false⟩ 6 (b_allsay (pg.sem k)) := sem_at (d := d__law_all_sayings) (by kernel_rfl) (m__law_all_sayings _)
theorem s__law_least (k : Nat) : pg.sem (k + 1) "_law_least" = runG ⟨2, none, false⟩ 6 (b_lleast (pg.sem k)) := sem_at (d := d__law_least) (by kernel_rfl) (m__law_least _)
theorem s__law_sum_right (k : Nat) : pg.sem (k + 1) "_law_sum_right" = runG ⟨3, none, false⟩ 6 (b_sright (pg.sem k)) := sem_at (d := d__law_sum_right) (by kernel_rfl) (m__law_sum_right _)
theorem s_every_saying (k : Nat) : pg.sem (k + 1) "every_saying" = runG ⟨1, none, false⟩ 6 (b_every (pg.sem k)) := sem_at (d := d_every_saying) (by kernel_rfl) (m_every_saying _)
theorem s_is_part (k : Nat) : pg.sem (k + 1) "is_part" = runG ⟨2, none, false⟩ 3 (b_ispart (pg.sem k)) := sem_at (d := d_is_part) (by kernel_rfl) (m_is_part _)
theorem s_bars (k : Nat) : pg.sem (k + 1) "bars" = runG ⟨2, none, false⟩ 4 (b_bars (pg.sem k)) := sem_at (d := d_bars) (by kernel_rfl) (m_bars _)
theorem s_least_sayings (k : Nat) : pg.sem (k + 1) "least_sayings" = runG ⟨2, none, false⟩ 7 (b_least (pg.sem k)) := sem_at (d := d_least_sayings) (by kernel_rfl) (m_least_sayings _)
theorem s_left_over (k : Nat) : pg.sem (k + 1) "left_over" = runG ⟨3, none, false⟩ 5 (b_left (pg.sem k)) := sem_at (d := d_left_over) (by kernel_rfl) (m_left_over _)
theorem s_quota_breach (k : Nat) : pg.sem (k + 1) "quota_breach" = runG ⟨4, none, false⟩ 6 (b_breach (pg.sem k)) := sem_at (d := d_quota_breach) (by kernel_rfl) (m_quota_breach _)
theorem s_quotas_sound (k : Nat) : pg.sem (k + 1) "quotas_sound" = runG ⟨4, none, false⟩ 4 (b_qsound (pg.sem k)) := sem_at (d := d_quotas_sound) (by kernel_rfl) (m_quotas_sound _)
theorem s_sound_quotas (k : Nat) : pg.sem (k + 1) "sound_quotas" = runG ⟨3, none, false⟩ 9 (b_soundq (pg.sem k)) := sem_at (d := d_sound_quotas) (by kernel_rfl) (m_sound_quotas _)
theorem s_one_quota (k : Nat) : pg.sem (k + 1) "one_quota" = runG ⟨3, none, false⟩ 4 (b_oneq (pg.sem k)) := sem_at (d := d_one_quota) (by kernel_rfl) (m_one_quota _)
noncomputable def b_law (φ : Str → FnSem) : MS := sSeq (sAsg (cCall (φ "_law_box") (cCons (cCall (φ "_law_cells") (cCons (cVar 0) (cCons (cConst (.int 1)) (cNil)))) (cCons (cConst (.int 0)) (cNil)))) (aName 1)) (sSeq (sAsg (cBin hAdd (cConst (.int 2)) (cCallIo (φ "_law_take") 1 0 (cCons (cHole 1) (cCons (cConst (.int 3)) (cNil))))) (aName 2)) (sSeq (sAsg (cCallIo (φ "_law_some_rows") 1 0 (cCons (cHole 1) (cCons (cVar 2) (cNil)))) (aName 3)) (sSeq (sAsg (cCall (φ "_law_least") (cCons (cVar 2) (cCons (cVar 3) (cNil)))) (aName 4)) (sSeq (sIf (bNot (toB (cCall (φ "_law_same") (cCons (cCall (φ "least_sayings") (cCons (cVar 2) (cCons (cVar 3) (cNil)))) (cCons (cVar 4) (cNil)))))) (sSeq (sRet (cConst (.bool false))) (sNil)) (sNil)) (sSeq (sAsg (cBin hAdd (cConst (.int 1)) (cCallIo (φ "_law_take") 1 0 (cCons (cHole 1) (cCons (cConst (.int 3)) (cNil))))) (aName 5)) (sSeq (sAsg (cLst (cCons (cTup (cNil)) (cNil))) (aName 6)) (sSeq (sFor (iR1 (cCons (cVar 2) (cNil))) (aName 7) (sSeq (sAsg (cLc (iE (cCall (φ "_law_pairs") (cCons (cVar 6) (cCons (cRgL (cCons (cConst (.int 1)) (cCons (cBin hAdd (cVar 5) (cConst (.int 1))) (cNil)))) (cNil))))) (aTup 2 (aCons (aName 11) (aCons (aName 17) (aNil)))) (M.pure true) (cBin hAdd (cVar 11) (cTup (cCons (cVar 17) (cNil)))) [11, 17]) (aName 6)) (sNil))) (sSeq (sAsg (cLc (iE (cVar 6)) (aName 11) (toB (cCall (φ "_law_sum_right") (cCons (cVar 5) (cCons (cVar 11) (cCons (cVar 4) (cNil)))))) (cVar 11) [11]) (aName 8)) (sSeq (sIf (bNot (toB (cCall (φ "_law_same") (cCons (cLst (cCons (cCall (φ "sound_quotas") (cCons (cVar 2) (cCons (cVar 3) (cCons (cVar 5) (cNil))))) (cCons (cCall (φ "sound_quotas") (cCons (cVar 2) (cCons (cCall (φ "_law_lists") (cCons (cVar 3) (cNil))) (cCons (cVar 5) (cNil))))) (cNil)))) (cCons (cLst (cCons (cVar 8) (cCons (cVar 8) (cNil)))) (cNil)))))) (sSeq (sRet (cConst (.bool false))) (sNil)) (sNil)) (sSeq (sFor (iR2 (cCons (cConst (.int 1)) (cCons (cConst (.int 7)) (cNil)))) (aName 9) (sSeq (sAsg (cCB hTuple (cCons (cLc (iR2 (cCons (cConst (.int 1)) (cCons (cBin hAdd (cVar 9) (cConst (.int 1))) (cNil)))) (aName 17) (toB (cCall (φ "_law_sum_right") (cCons (cVar 9) (cCons (cBin hMul (cTup (cCons (cVar 17) (cNil))) (cVar 2)) (cCons (cVar 4) (cNil)))))) (cVar 17) [17]) (cNil))) (aName 12)) (sSeq (sIf (bNot (toB (cCall (φ "_law_same") (cCons (cCall (φ "one_quota") (cCons (cVar 2) (cCons (cVar 3) (cCons (cVar 9) (cNil))))) (cCons (cVar 12) (cNil)))))) (sSeq (sRet (cConst (.bool false))) (sNil)) (sNil)) (sSeq (sIf (bCmp hGt (cVar 9) (cConst (.int 1))) (sSeq (sAsg (cBin hEq (cLc (iE (cVar 4)) (aName 11) (bCmp hGt (cCB hLen (cCons (cLc (iE (cVar 11)) (aTup 2 (aCons (aName 7) (aCons (aName 20) (aNil)))) (bCmp hEq (cVar 20) (cConst (.int 0))) (cConst (.int 1)) [7, 20]) (cNil))) (cConst (.int 1))) (cVar 11) [11]) (cLst (cNil))) (aName 15)) (sSeq (sAsg (cBin hEq (cLc (iE (cVar 4)) (aName 11) (bCmp hGt (cCB hLen (cCons (cLc (iE (cVar 11)) (aTup 2 (aCons (aName 7) (aCons (aName 20) (aNil)))) (bCmp hEq (cVar 20) (cConst (.int 1))) (cConst (.int 1)) [7, 20]) (cNil))) (cConst (.int 1))) (cVar 11) [11]) (cLst (cNil))) (aName 16)) (sSeq (sIf (bOr (bCmp hNe (cBin hIn (cVar 9) (cVar 12)) (cVar 15)) (bCmp hNe (cBin hIn (cConst (.int 1)) (cVar 12)) (cVar 16))) (sSeq (sRet (cConst (.bool false))) (sNil)) (sNil)) (sSeq (sIf (bAnd (bCmp hEq (cVar 9) (cConst (.int 3))) (bCmp hNe (cBin hIn (cConst (.int 2)) (cVar 12)) (cBin hEq (cLc (iE (cVar 4)) (aName 11) (bCmp hGt (cCB hLen (cCons (cVar 11) (cNil))) (cConst (.int 2))) (cVar 11) [11]) (cLst (cNil))))) (sSeq (sRet (cConst (.bool false))) (sNil)) (sNil)) (sNil))))) (sSeq (sIf (bCmp hNe (cVar 12) (cTup (cCons (cConst (.int 1)) (cNil)))) (sSeq (sRet (cConst (.bool false))) (sNil)) (sNil)) (sNil))) (sNil))))) (sSeq (sAsg (cCallIo (φ "_law_take") 1 0 (cCons (cHole 1) (cCons (cVar 2) (cNil)))) (aName 7)) (sSeq (sAsg (cCB hTuple (cCons (cCB hSorted1 (cCons (cLc (iE (cVar 3)) (aName 18) (M.pure true) (cBin hAdd (cBin hAdd (cSl (cVar 18) (pNone) (pSome (cVar 7))) (cTup (cCons (cBin hSub (cConst (.int 1)) (cBin hIx (cVar 18) (cVar 7))) (cNil)))) (cSl (cVar 18) (pSome (cBin hAdd (cVar 7) (cConst (.int 1)))) (pNone))) [18]) (cNil))) (cNil))) (aName 10)) (sSeq (sFor (iE (cSl (cVar 6) (pNone) (pSome (cConst (.int 30))))) (aName 11) (sSeq (sAsg (cBin hAdd (cBin hAdd (cSl (cVar 11) (pNone) (pSome (cVar 7))) (cTup (cCons (cBin hSub (cBin hAdd (cVar 5) (cConst (.int 1))) (cBin hIx (cVar 11) (cVar 7))) (cNil)))) (cSl (cVar 11) (pSome (cBin hAdd (cVar 7) (cConst (.int 1)))) (pNone))) (aName 13)) (sSeq (sIf (bNot (toB (cCall (φ "_law_same") (cCons (cCall (φ "quotas_sound") (cCons (cVar 2) (cCons (cVar 10) (cCons (cVar 5) (cCons (cVar 13) (cNil)))))) (cCons (cBin hIn (cVar 11) (cVar 8)) (cNil)))))) (sSeq (sRet (cConst (.bool false))) (sNil)) (sNil)) (sNil)))) (sSeq (sFor (iE (cSl (cVar 8) (pNone) (pSome (cConst (.int 20))))) (aName 11) (sSeq (sAsg (cCB hTuple (cCons (cLc (iE (cVar 11)) (aName 17) (M.pure true) (cBin hMul (cConst (.int 2)) (cVar 17)) [17]) (cNil))) (aName 14)) (sSeq (sIf (bAnd (bCmp hEq (cLc (iE (cVar 4)) (aName 19) (bCmp hEq (cCB hLen (cCons (cLc (iE (cVar 19)) (aTup 2 (aCons (aName 21) (aCons (aName 20) (aNil)))) (bCmp hEq (cVar 20) (cConst (.int 0))) (cConst (.int 1)) [21, 20]) (cNil))) (cConst (.int 0))) (cConst (.int 1)) [19]) (cCB hList (cCons (cLc (iE (cVar 4)) (aName 19) (M.pure true) (cConst (.int 1)) [19]) (cNil)))) (bCmp hIsNot (cCall (φ "quotas_sound") (cCons (cVar 2) (cCons (cVar 3) (cCons (cBin hMul (cConst (.int 2)) (cVar 5)) (cCons (cVar 14) (cNil)))))) (cConst (.bool true)))) (sSeq (sRet (cConst (.bool false))) (sNil)) (sNil)) (sNil)))) (sSeq (sRet (cConst (.bool true))) (sNil))))))))))))))))
theorem s_law (k : Nat) : pg.sem (k + 1) "law" = runG ⟨1, none, false⟩ 22 (b_law (pg.sem k)) := sem_at (d := d_law) (by kernel_rfl) (m_law _)
end L2.PV
set_option Elab.async false
set_option linter.all false
set_option maxRecDepth 100000
set_option maxHeartbeats 4000000
namespace L2.PV
open PySem PySem.Spec PyProof.Rows
open Enc (enc)

theorem LOk_least {n : Nat} (hn : n ≤ 13) (rows : List (List Int)) : LOk n (least n rows) := by
  have h13 : 3 ^ n ≤ lineN := Nat.le_trans (three_le hn) (by decide)
  refine ⟨by unfold least; rw [sortT_len]; exact Nat.le_trans (LSt_len n rows) h13, fun s hs => ?_⟩
  have := SAYS_ok n s (LSt_mem (least_mem.mp hs)).1
  exact ⟨Nat.le_trans this.1 (Nat.le_trans hn (by decide)), fun a ha => (this.2.2 a ha).1⟩
theorem Marks_least {n : Nat} {rows : List (List Int)} : ∀ s ∈ least n rows, Marks n s := fun s hs => (SAYS_iff.mp (LSt_mem (least_mem.mp hs)).1).2
section
variable {n : Nat} (hn : n ≤ 13) {rows : List (List Int)} (hr : ∀ r ∈ rows, r.length = n) (hrl : rows.length ≤ lineN) (rf : List Int → Dat) {d : Dat} (hd : drawn d = some (rows.map rf)) (hrf : ∀ r, hTuple [rf r] = some (enc r))
include hn hr hrl hd hrf
theorem p_least (k : Nat) : pg.sem (k + 3) "least_sayings" [.int (n : Nat), d] = .ok (enc (least n rows)) .none := by
  rw [s_least_sayings (k + 2)]
  exact least_ok (ψ := pg.sem (k + 1)) (s_every_saying (k + 1)) (s_is_part (k + 1)) (s_bars (k + 1)) n hn rows hr hrl rf d hd hrf
theorem p_qsound (k : Nat) (size : Int) (q : Quo) (hq : q.length = n) : pg.sem (k + 6) "quotas_sound" [.int (n : Nat), d, .int size, enc q] = .ok (.bool (QS size q (least n rows))) .none := by
  rw [s_quotas_sound (k + 5)]
  exact qsound_ok (φ := pg.sem (k + 5)) (ψ := pg.sem (k + 4)) (χ := pg.sem (k + 3)) (LOk_least hn rows) (p_least hn hr hrl rf hd hrf (k + 1)) (s_left_over (k + 3)) (s_quota_breach (k + 4)) size q hq
theorem p_soundq (k size : Nat) (hs : size ≤ 3) : pg.sem (k + 4) "sound_quotas" [.int (n : Nat), d, .int (size : Nat)] = .ok (.list ((good size n (least n rows)).map enc)) .none := by
  rw [s_sound_quotas (k + 3)]
  exact soundq_ok (φ := pg.sem (k + 3)) (χ := pg.sem (k + 2)) hn hs (LOk_least hn rows) (p_least hn hr hrl rf hd hrf k) (s_left_over (k + 2))
theorem p_oneq (k f : Nat) (h2 : 2 ≤ n) (hf : f ≤ 1000000) : pg.sem (k + 7) "one_quota" [.int (n : Nat), d, .int (f : Nat)] = .ok (enc (ones f n (least n rows))) .none := by
  rw [s_one_quota (k + 6)]
  exact oneq_ok h2 hn hf fun size q hq => p_qsound hn hr hrl rf hd hrf k size q hq
end
theorem p_lleast (k : Nat) {n : Nat} (hn : n ≤ 13) {rows : List (List Int)} (hr : ∀ r ∈ rows, r.length = n) (hrl : rows.length ≤ lineN) : pg.sem (k + 4) "_law_least" [.int (n : Nat), enc rows] = .ok (enc (least n rows)) .none := by
  rw [s__law_least (k + 3)]
  refine lleast_ok (ψ := pg.sem (k + 2)) (fun m hm => ?_) (s__law_part (k + 2)) (s__law_bars (k + 2)) n hn rows hr hrl
  rw [s__law_all_sayings (k + 2)]
  exact allsay_ok (ψ := pg.sem (k + 1)) (s__law_pairs (k + 1)) m hm
theorem p_same (d : Dat) (h : okD d = true) (hd : d.depth < 39) : pg.sem 39 "_law_same" [d, d] = .ok (.bool true) .none := same_ok s__law_same 39 d h hd
theorem cut_take {α : Type} (r : List α) (q : Int) (h : 0 ≤ q ∧ q < r.length) : cutA r none (some q) = r.take q.toNat := by
  have e : HT.sIx r.length r.length (some q) = q.toNat := by
    unfold HT.sIx
    dsimp only
    rw [if_neg (by omega)]
    omega
  unfold cutA
  rw [e, HT.sIx_none, List.drop_zero, Nat.sub_zero]
theorem cut_drop {α : Type} (r : List α) (q : Int) (h : 0 ≤ q ∧ q < r.length) : cutA r (some (q + 1)) none = r.drop (q.toNat + 1) := by
  have e : HT.sIx r.length 0 (some (q + 1)) = q.toNat + 1 := by
    unfold HT.sIx
    dsimp only
    rw [if_neg (by omega)]
    omega
  unfold cutA
  rw [e, HT.sIx_none]
  refine List.take_of_length_le ?_
  rw [List.length_drop]
  exact Nat.le_refl _
theorem flip_eq (r : List Int) (q x : Int) (h : 0 ≤ q ∧ q < r.length) : cutA r none (some q) ++ [x - r.getD q.toNat 0] ++ cutA r (some (q + 1)) none = flip q x r := by
  rw [cut_take r q h, cut_drop r q h]
  unfold flip
  rw [List.set_eq_take_append_cons_drop, if_pos (by omega), List.append_assoc]
  rfl
theorem sl_row {r : List Int} {lo hi : Option Int} : hSl (enc r) lo hi = some (enc (cutA r lo hi)) := by
  rw [enc_list, sl_t, enc_list]
  exact congrArg (fun z => some (PyData.tuple z)) (cutD_map _ _ _ _)
/-- a tuple with one place exchanged, as it is written -/
theorem flip_run (r : List Int) (q x : Int) (h : 0 ≤ q ∧ q < r.length) (hl : r.length ≤ 1000) {i j : Nat} {g : M Dat} {ρ : Env} (hi : cVar i ρ = .ok (enc r) ρ) (hj : cVar j ρ = .ok (.int q) ρ) (hg : g ρ = .ok (.int x) ρ) :
    cBin hAdd (cBin hAdd (cSl (cVar i) (pNone) (pSome (cVar j))) (cTup (cCons (cBin hSub g (cBin hIx (cVar i) (cVar j))) (cNil)))) (cSl (cVar i) (pSome (cBin hAdd (cVar j) (cConst (.int 1)))) (pNone)) ρ = .ok (enc (flip q x r)) ρ := by
  have hx := ix_row (r := r) h.1 h.2
  have small : ∀ {m : Nat}, m ≤ 100000 → m ≤ lineN := fun h => Nat.le_trans h (by decide)
  have l1 := cutA_len r none (some q)
  have l2 := cutA_len r (some (q + 1)) none
  have a1 := add_enc (xs := cutA r none (some q)) (ys := [x - r.getD q.toNat 0]) (small (by rw [List.length_singleton]; omega))
  have a2 := add_enc (xs := cutA r none (some q) ++ [x - r.getD q.toNat 0]) (ys := cutA r (some (q + 1)) none) (small (by rw [List.length_append, List.length_singleton]; omega))
  have a1 : hAdd (enc (cutA r none (some q))) (.tuple [.int (x - r.getD q.toNat 0)]) = _ := a1
  rw [flip_eq r q x h] at a2
  rw [ap_bin, ap_bin, ap_sl, hi, bd_ok, ap_pN, bd_ok, ap_pS, hj, bd_ok]
  simp only [intOf, Option.map_some, lo_some, bd_ok, sl_row]
  rw [ap_tup, ap_cons, ap_bin, hg, bd_ok, ap_bin, hi, bd_ok, hj, bd_ok, hx]
  simp only [lo_some, bd_ok, sub_ii, ap_nil, tup1, a1]
  rw [ap_sl, hi, bd_ok, ap_pS, ap_bin, hj]
  simp only [bd_ok, ap_const, add_ii, lo_some, intOf, Option.map_some, ap_pN, sl_row, a2]
theorem pairsQ {size : Nat} (qs : List Quo) (hl : qs.length * size ≤ 1594323) (hs : size ≤ 3) : pg.sem 39 "_law_pairs" [.list (qs.map enc), .list ((QR size).map .int)] = .ok (.list ((qs.flatMap fun q => (QR size).map fun x => (q, x)).map fun p => .tuple [enc p.1, .int p.2])) .none := by
  rw [s__law_pairs 38]
  have := pairs_ok (φ := pg.sem 38) (enc (α := Quo)) PyData.int false false qs (QR size) (by rw [QR_len]; exact Nat.le_trans hl (by decide)) (by rw [QR_len]; exact Nat.le_trans hs (by decide))
  rw [List.map_flatMap]
  have e : (fun q => List.map (fun p : Quo × Int => PyData.tuple [enc p.1, .int p.2]) ((QR size).map fun x => (q, x))) = fun q => (QR size).map fun x => PyData.tuple [enc q, .int x] := funext fun q => by rw [List.map_map]; rfl
  rw [e]
  exact this

theorem law_every (ns : List Int) (u : Urn) {n size : Nat} (hn : n ≤ 13) (hs : size ≤ 3) (rows : List (List Int)) : ∃ o, forL (aName 7) (sSeq (sAsg (cLc (iE (cCall ((pg.sem 39) "_law_pairs") (cCons (cVar 6) (cCons (cRgL (cCons (cConst (.int 1)) (cCons (cBin hAdd (cVar 5) (cConst (.int 1))) (cNil)))) (cNil))))) (aTup 2 (aCons (aName 11) (aCons (aName 17) (aNil)))) (M.pure true) (cBin hAdd (cVar 11) (cTup (cCons (cVar 17) (cNil)))) [11, 17]) (aName 6)) (sNil)) ((List.range n).map rgI) [some (script ns), some (.list u.d), some (.int (n : Nat)), some (enc rows), some (enc (least n rows)), some (.int (size : Nat)), some (.list [.tuple []]), none, none, none, none, none, none, none, none, none, none, none, none, none, none, none] = .nx [some (script ns), some (.list u.d), some (.int (n : Nat)), some (enc rows), some (enc (least n rows)), some (.int (size : Nat)), some (.list ((EVQ size n).map enc)), o, none, none, none, none, none, none, none, none, none, none, none, none, none, none] := by
  have loop := forL_meas (τ := List Quo × Option Dat) (f := aName 7) (b := sSeq (sAsg (cLc (iE (cCall ((pg.sem 39) "_law_pairs") (cCons (cVar 6) (cCons (cRgL (cCons (cConst (.int 1)) (cCons (cBin hAdd (cVar 5) (cConst (.int 1))) (cNil)))) (cNil))))) (aTup 2 (aCons (aName 11) (aCons (aName 17) (aNil)))) (M.pure true) (cBin hAdd (cVar 11) (cTup (cCons (cVar 17) (cNil)))) [11, 17]) (aName 6)) (sNil)) rgI
    (fun s => [some (script ns), some (.list u.d), some (.int (n : Nat)), some (enc rows), some (enc (least n rows)), some (.int (size : Nat)), some (.list (s.1.map enc)), s.2, none, none, none, none, none, none, none, none, none, none, none, none, none, none]) (fun s k => (nextQ size s.1, some (rgI k))) RoomQ (fun k ks s q => by
      obtain ⟨qs, o⟩ := s
      have q3 := roomq_len q
      dsimp only at q3
      refine ⟨⟨_, rfl, ?_⟩, roomq_next hs q _⟩
      have q4 : qs.length * size ≤ 1594323 := Nat.le_trans (Nat.mul_le_mul_left _ hs) (by omega)
      have hfl : ((qs.flatMap fun q => (QR size).map fun x => (q, x)).map fun p : Quo × Int => enc (p.1 ++ [p.2])) = (nextQ size qs).map enc := by
        unfold nextQ
        rw [List.map_flatMap, List.map_flatMap]
        refine congrArg (fun f => qs.flatMap f) (funext fun p => ?_)
        rw [List.map_map, List.map_map]
        rfl
      have hpl : (qs.flatMap fun q => (QR size).map fun x => (q, x)).length = qs.length * size := by
        have := congrArg List.length hfl
        rw [List.length_map, List.length_map, nextQ_len] at this
        exact this
      have hc := cLc_map (gi := iE (cCall (pg.sem 39 "_law_pairs") (cCons (cVar 6) (cCons (cRgL (cCons (cConst (.int 1)) (cCons (cBin hAdd (cVar 5) (cConst (.int 1))) (cNil)))) (cNil))))) (f := aTup 2 (aCons (aName 11) (aCons (aName 17) (aNil)))) (e := cBin hAdd (cVar 11) (cTup (cCons (cVar 17) (cNil)))) (vs := [11, 17]) (ρ := [some (script ns), some (.list u.d), some (.int (n : Nat)), some (enc rows), some (enc (least n rows)), some (.int (size : Nat)), some (.list (qs.map enc)), some (rgI k), none, none, none, none, none, none, none, none, none, none, none, none, none, none]) (fun p : Quo × Int => .tuple [enc p.1, .int p.2]) (fun p => [some (script ns), some (.list u.d), some (.int (n : Nat)), some (enc rows), some (enc (least n rows)), some (.int (size : Nat)), some (.list (qs.map enc)), some (rgI k), none, none, none, some (enc p.1), none, none, none, none, none, some (.int p.2), none, none, none, none]) (fun p => enc (p.1 ++ [p.2])) (qs.flatMap fun q => (QR size).map fun x => (q, x))
        (by simp only [bd_ok, sb_ok, tn_nx, tn_rt, tn_bk, tn_ct, lo_some, slo_some, vr0, vrS, ap_var, ap_const, ap_pure, ap_bin, ap_nil, ap_cons, ap_star, ap_tup, ap_lst, ap_cb, ap_isi, ap_rgl, ap_if, ap_not, tru_t, tru_f, ap_or, ap_and, ap_toB, ap_bNot, ap_bAnd, ap_bOr, ap_bCmp, boolO_some', ap_iE, ap_iR1, ap_iR2, ap_iEn, ap_iZip, ap_pN, ap_pS, ap_sl, call_ok, ap_call, callI_ok, ap_callIo, ap_hole, ls0, lsS, ap_bor', borE_int, borE_bool, ap_borT, borT_ok, ap_move, ap_sNil, ap_sPass, ap_seq, ap_asg, ap_asgs, ap_ret, ap_expr, ap_sIf, ap_for, ap_setIx, ap_mut, optE_some, tup0, tup1, tup2, tup3, lst0, lst1, lst2, lst3, aName, aCons, aNil, aTup2, Option.bind_some, Option.map_some, List.set_cons_zero, List.set_cons_succ, List.cons_append, List.nil_append, if_true, if_false, Bool.false_eq_true, if_pos, reduceIte, add_ii, rgD_QR (Nat.le_trans hs (by decide)), pairsQ qs q4 hs, drawn_l]) rfl rfl (by rw [hpl]; exact Nat.le_trans q4 (by decide)) (fun _ _ => rfl) (fun p m => by
          have hm : p.1.length + 1 ≤ lineN := by
            obtain ⟨t, ht, hpt⟩ := List.mem_flatMap.mp m
            obtain ⟨x, _, rfl⟩ := List.mem_map.mp hpt
            have := q.2 t ht
            refine Nat.le_trans ?_ (show 14 ≤ lineN by decide)
            show t.length + 1 ≤ 14
            omega
          have ha : hAdd (enc p.1) (.tuple [.int p.2]) = some (enc (p.1 ++ [p.2])) := add_enc (ys := [p.2]) hm
          simp only [bd_ok, sb_ok, tn_nx, tn_rt, tn_bk, tn_ct, lo_some, slo_some, vr0, vrS, ap_var, ap_const, ap_pure, ap_bin, ap_nil, ap_cons, ap_star, ap_tup, ap_lst, ap_cb, ap_isi, ap_rgl, ap_if, ap_not, tru_t, tru_f, ap_or, ap_and, ap_toB, ap_bNot, ap_bAnd, ap_bOr, ap_bCmp, boolO_some', ap_iE, ap_iR1, ap_iR2, ap_iEn, ap_iZip, ap_pN, ap_pS, ap_sl, call_ok, ap_call, callI_ok, ap_callIo, ap_hole, ls0, lsS, ap_bor', borE_int, borE_bool, ap_borT, borT_ok, ap_move, ap_sNil, ap_sPass, ap_seq, ap_asg, ap_asgs, ap_ret, ap_expr, ap_sIf, ap_for, ap_setIx, ap_mut, optE_some, tup0, tup1, tup2, tup3, lst0, lst1, lst2, lst3, aName, aCons, aNil, aTup2, Option.bind_some, Option.map_some, List.set_cons_zero, List.set_cons_succ, List.cons_append, List.nil_append, if_true, if_false, Bool.false_eq_true, if_pos, reduceIte, ha]) (fun _ _ => rfl)
      rw [hfl] at hc
      simp only [bd_ok, sb_ok, tn_nx, tn_rt, tn_bk, tn_ct, lo_some, slo_some, vr0, vrS, ap_var, ap_const, ap_pure, ap_bin, ap_nil, ap_cons, ap_star, ap_tup, ap_lst, ap_cb, ap_isi, ap_rgl, ap_if, ap_not, tru_t, tru_f, ap_or, ap_and, ap_toB, ap_bNot, ap_bAnd, ap_bOr, ap_bCmp, boolO_some', ap_iE, ap_iR1, ap_iR2, ap_iEn, ap_iZip, ap_pN, ap_pS, ap_sl, call_ok, ap_call, callI_ok, ap_callIo, ap_hole, ls0, lsS, ap_bor', borE_int, borE_bool, ap_borT, borT_ok, ap_move, ap_sNil, ap_sPass, ap_seq, ap_asg, ap_asgs, ap_ret, ap_expr, ap_sIf, ap_for, ap_setIx, ap_mut, optE_some, tup0, tup1, tup2, tup3, lst0, lst1, lst2, lst3, aName, aCons, aNil, aTup2, Option.bind_some, Option.map_some, List.set_cons_zero, List.set_cons_succ, List.cons_append, List.nil_append, if_true, if_false, Bool.false_eq_true, if_pos, reduceIte, hc]) (List.range n) ([[]], none) (roomq_0 hn)
  have fold := fold_evq size n
  obtain ⟨s, hss⟩ : ∃ s, s = (List.range n).foldl (fun (s : List Quo × Option Dat) (k : Nat) => (nextQ size s.1, some (rgI k))) ([[]], none) := ⟨_, rfl⟩
  rw [← hss] at loop fold
  rw [fold] at loop
  exact ⟨s.2, loop⟩
end L2.PV
set_option Elab.async false
set_option linter.all false
set_option maxRecDepth 100000
set_option maxHeartbeats 4000000
namespace L2.PV
open PySem PySem.Spec PyProof.Rows
open Enc (enc)

theorem drawn_says (L : List Say) : drawn (enc L) = some (L.map enc) := Eq.trans rfl rfl
theorem tup_one (x : Int) : (.tuple [.int x] : Dat) = enc [x] := Eq.trans rfl rfl
theorem len_say (s : Say) : hLen [enc s] = some (.int (s.length : Nat)) := by show some (PyData.int ((s.map enc).length : Nat)) = _; rw [List.length_map]
/-- how many answers of a saying have that mark, wherever the names lie -/
theorem cnt_lc (m : Int) (s : Say) (hs : s.length ≤ lineN) {i j k : Nat} {ρ : Env} (ρd : Int × Int → Env) {ρw : Env} (hd : cVar i ρ = .ok (enc s) ρ) (hw : wipeE ρ [j, k] = ρw) (hb : backE ρ ρw [j, k] = ρ) (h1 : ∀ a : Int × Int, aTup 2 (aCons (aName j) (aCons (aName k) (aNil))) (enc a) ρw = some (ρd a)) (ek : ∀ a : Int × Int, cVar k (ρd a) = .ok (.int a.2) (ρd a)) (h4 : ∀ a, wipeE (ρd a) [j, k] = ρw) :
    cCB hLen (cCons (cLc (iE (cVar i)) (aTup 2 (aCons (aName j) (aCons (aName k) (aNil)))) (bCmp hEq (cVar k) (cConst (.int m))) (cConst (.int 1)) [j, k]) (cNil)) ρ = .ok (.int (cnt m s : Nat)) ρ := by
  have hc := cLc_ok (gi := iE (cVar i)) (f := aTup 2 (aCons (aName j) (aCons (aName k) (aNil)))) (t := bCmp hEq (cVar k) (cConst (.int m))) (e := cConst (.int 1)) (vs := [j, k]) (ρ := ρ) enc ρd (fun a => decide (a.2 = m)) (fun _ => .int 1) s
    (by have : drawn (enc s) = some (s.map enc) := rfl
        rw [ap_iE, hd, bd_ok, this]; rfl) hw hb hs (fun a _ => h1 a) (fun a _ => by rw [ap_bCmp, ek a, bd_ok, ap_const, bd_ok, eq_ii]; rfl) (fun _ _ _ => rfl) (fun a _ => h4 a)
  rw [ap_cb, ap_cons, hc]
  simp only [bd_ok, ap_nil, len_l, List.length_map, lo_some]
  rfl
theorem dec_iff {p q : Prop} [Decidable p] [Decidable q] (h : p ↔ q) : decide p = decide q := by
  by_cases hq : q
  · rw [decide_eq_true hq, decide_eq_true (h.mpr hq)]
  · rw [decide_eq_false hq, decide_eq_false fun z => hq (h.mp z)]
theorem in_ones (x : Int) (l : List Int) : hIn (.int x) (enc l) = some (.bool (decide (x ∈ l))) := (hIn_tup (α := Int) (by decide) x l).trans (congrArg (fun b => some (PyData.bool b)) (dec_eq _ _))
theorem eq_nil_say (l : List Say) : hEq (.list (l.map enc)) (.list []) = some (.bool (decide (l = []))) := (hEq_nil (α := Say) (by decide) l).trans (congrArg (fun b => some (PyData.bool b)) (dec_eq _ _))
theorem ne_ones (l m : List Int) : hNe (enc l) (enc m) = some (.bool (!decide (l = m))) := (hNe_enc (α := List Int) (by decide) l m).trans (congrArg (fun b => some (PyData.bool (!b))) (dec_eq _ _))
theorem enc_small (l : List Int) (h : l.length ≤ lineN) : okD (enc l) = true := okD_tup h fun _ _ => rfl
theorem law_friends (ns : List Int) (u : Urn) {n size : Nat} (h2 : 2 ≤ n) (hn : n ≤ 13) {rows : List (List Int)} (hr : ∀ r ∈ rows, r.length = n) (hrl : rows.length ≤ lineN) (oq : Option Dat) : ∃ o1 o2 o3 o4, forL (aName 9) (sSeq (sAsg (cCB hTuple (cCons (cLc (iR2 (cCons (cConst (.int 1)) (cCons (cBin hAdd (cVar 9) (cConst (.int 1))) (cNil)))) (aName 17) (toB (cCall ((pg.sem 39) "_law_sum_right") (cCons (cVar 9) (cCons (cBin hMul (cTup (cCons (cVar 17) (cNil))) (cVar 2)) (cCons (cVar 4) (cNil)))))) (cVar 17) [17]) (cNil))) (aName 12)) (sSeq (sIf (bNot (toB (cCall ((pg.sem 39) "_law_same") (cCons (cCall ((pg.sem 39) "one_quota") (cCons (cVar 2) (cCons (cVar 3) (cCons (cVar 9) (cNil))))) (cCons (cVar 12) (cNil)))))) (sSeq (sRet (cConst (.bool false))) (sNil)) (sNil)) (sSeq (sIf (bCmp hGt (cVar 9) (cConst (.int 1))) (sSeq (sAsg (cBin hEq (cLc (iE (cVar 4)) (aName 11) (bCmp hGt (cCB hLen (cCons (cLc (iE (cVar 11)) (aTup 2 (aCons (aName 7) (aCons (aName 20) (aNil)))) (bCmp hEq (cVar 20) (cConst (.int 0))) (cConst (.int 1)) [7, 20]) (cNil))) (cConst (.int 1))) (cVar 11) [11]) (cLst (cNil))) (aName 15)) (sSeq (sAsg (cBin hEq (cLc (iE (cVar 4)) (aName 11) (bCmp hGt (cCB hLen (cCons (cLc (iE (cVar 11)) (aTup 2 (aCons (aName 7) (aCons (aName 20) (aNil)))) (bCmp hEq (cVar 20) (cConst (.int 1))) (cConst (.int 1)) [7, 20]) (cNil))) (cConst (.int 1))) (cVar 11) [11]) (cLst (cNil))) (aName 16)) (sSeq (sIf (bOr (bCmp hNe (cBin hIn (cVar 9) (cVar 12)) (cVar 15)) (bCmp hNe (cBin hIn (cConst (.int 1)) (cVar 12)) (cVar 16))) (sSeq (sRet (cConst (.bool false))) (sNil)) (sNil)) (sSeq (sIf (bAnd (bCmp hEq (cVar 9) (cConst (.int 3))) (bCmp hNe (cBin hIn (cConst (.int 2)) (cVar 12)) (cBin hEq (cLc (iE (cVar 4)) (aName 11) (bCmp hGt (cCB hLen (cCons (cVar 11) (cNil))) (cConst (.int 2))) (cVar 11) [11]) (cLst (cNil))))) (sSeq (sRet (cConst (.bool false))) (sNil)) (sNil)) (sNil))))) (sSeq (sIf (bCmp hNe (cVar 12) (cTup (cCons (cConst (.int 1)) (cNil)))) (sSeq (sRet (cConst (.bool false))) (sNil)) (sNil)) (sNil))) (sNil)))) ((QR 6).map .int) [some (script ns), some (.list u.d), some (.int (n : Nat)), some (enc rows), some (enc (least n rows)), some (.int (size : Nat)), some (.list ((EVQ size n).map enc)), oq, some (.list ((good size n (least n rows)).map enc)), none, none, none, none, none, none, none, none, none, none, none, none, none] = .nx [some (script ns), some (.list u.d), some (.int (n : Nat)), some (enc rows), some (enc (least n rows)), some (.int (size : Nat)), some (.list ((EVQ size n).map enc)), oq, some (.list ((good size n (least n rows)).map enc)), o1, none, none, o2, none, none, o3, o4, none, none, none, none, none] := by
  have hL := LOk_least hn rows
  have hM := Marks_least (n := n) (rows := rows)
  have hdr : drawn (enc rows) = some (rows.map enc) := rfl
  have small : ∀ {m : Nat}, m ≤ 1000000 → m ≤ lineN := fun h => Nat.le_trans h (by decide)
  have loop := forL_inv (τ := Option Dat × Option Dat × Option Dat × Option Dat) (f := aName 9) (b := sSeq (sAsg (cCB hTuple (cCons (cLc (iR2 (cCons (cConst (.int 1)) (cCons (cBin hAdd (cVar 9) (cConst (.int 1))) (cNil)))) (aName 17) (toB (cCall ((pg.sem 39) "_law_sum_right") (cCons (cVar 9) (cCons (cBin hMul (cTup (cCons (cVar 17) (cNil))) (cVar 2)) (cCons (cVar 4) (cNil)))))) (cVar 17) [17]) (cNil))) (aName 12)) (sSeq (sIf (bNot (toB (cCall ((pg.sem 39) "_law_same") (cCons (cCall ((pg.sem 39) "one_quota") (cCons (cVar 2) (cCons (cVar 3) (cCons (cVar 9) (cNil))))) (cCons (cVar 12) (cNil)))))) (sSeq (sRet (cConst (.bool false))) (sNil)) (sNil)) (sSeq (sIf (bCmp hGt (cVar 9) (cConst (.int 1))) (sSeq (sAsg (cBin hEq (cLc (iE (cVar 4)) (aName 11) (bCmp hGt (cCB hLen (cCons (cLc (iE (cVar 11)) (aTup 2 (aCons (aName 7) (aCons (aName 20) (aNil)))) (bCmp hEq (cVar 20) (cConst (.int 0))) (cConst (.int 1)) [7, 20]) (cNil))) (cConst (.int 1))) (cVar 11) [11]) (cLst (cNil))) (aName 15)) (sSeq (sAsg (cBin hEq (cLc (iE (cVar 4)) (aName 11) (bCmp hGt (cCB hLen (cCons (cLc (iE (cVar 11)) (aTup 2 (aCons (aName 7) (aCons (aName 20) (aNil)))) (bCmp hEq (cVar 20) (cConst (.int 1))) (cConst (.int 1)) [7, 20]) (cNil))) (cConst (.int 1))) (cVar 11) [11]) (cLst (cNil))) (aName 16)) (sSeq (sIf (bOr (bCmp hNe (cBin hIn (cVar 9) (cVar 12)) (cVar 15)) (bCmp hNe (cBin hIn (cConst (.int 1)) (cVar 12)) (cVar 16))) (sSeq (sRet (cConst (.bool false))) (sNil)) (sNil)) (sSeq (sIf (bAnd (bCmp hEq (cVar 9) (cConst (.int 3))) (bCmp hNe (cBin hIn (cConst (.int 2)) (cVar 12)) (cBin hEq (cLc (iE (cVar 4)) (aName 11) (bCmp hGt (cCB hLen (cCons (cVar 11) (cNil))) (cConst (.int 2))) (cVar 11) [11]) (cLst (cNil))))) (sSeq (sRet (cConst (.bool false))) (sNil)) (sNil)) (sNil))))) (sSeq (sIf (bCmp hNe (cVar 12) (cTup (cCons (cConst (.int 1)) (cNil)))) (sSeq (sRet (cConst (.bool false))) (sNil)) (sNil)) (sNil))) (sNil)))) PyData.int (fun s => [some (script ns), some (.list u.d), some (.int (n : Nat)), some (enc rows), some (enc (least n rows)), some (.int (size : Nat)), some (.list ((EVQ size n).map enc)), oq, some (.list ((good size n (least n rows)).map enc)), s.1, none, none, s.2.1, none, none, s.2.2.1, s.2.2.2, none, none, none, none, none]) (fun _ => True) (QR 6) (none, none, none, none) trivial (fun s x hx _ => by
    obtain ⟨o1, o2, o3, o4⟩ := s
    obtain ⟨f, rfl⟩ : ∃ f : Nat, x = (f : Int) := ⟨x.toNat, by have := QR_mem.mp hx; omega⟩
    have hf := QR_mem.mp hx
    have hf1 : 1 ≤ f := by omega
    have hf6 : f ≤ 6 := by have := hf.2; omega
    have hcO := cLc_ok (gi := iR2 (cCons (cConst (.int 1)) (cCons (cBin hAdd (cVar 9) (cConst (.int 1))) (cNil)))) (f := aName 17) (t := toB (cCall (pg.sem 39 "_law_sum_right") (cCons (cVar 9) (cCons (cBin hMul (cTup (cCons (cVar 17) (cNil))) (cVar 2)) (cCons (cVar 4) (cNil)))))) (e := cVar 17) (vs := [17]) (ρ := [some (script ns), some (.list u.d), some (.int (n : Nat)), some (enc rows), some (enc (least n rows)), some (.int (size : Nat)), some (.list ((EVQ size n).map enc)), oq, some (.list ((good size n (least n rows)).map enc)), some (.int (f : Nat)), none, none, o2, none, none, o3, o4, none, none, none, none, none]) PyData.int (fun y => [some (script ns), some (.list u.d), some (.int (n : Nat)), some (enc rows), some (enc (least n rows)), some (.int (size : Nat)), some (.list ((EVQ size n).map enc)), oq, some (.list ((good size n (least n rows)).map enc)), some (.int (f : Nat)), none, none, o2, none, none, o3, o4, some (.int y), none, none, none, none]) (fun y => QS f (List.replicate n y) (least n rows)) PyData.int (QR f)
      (by simp only [bd_ok, sb_ok, tn_nx, tn_rt, tn_bk, tn_ct, lo_some, slo_some, vr0, vrS, ap_var, ap_const, ap_pure, ap_bin, ap_nil, ap_cons, ap_star, ap_tup, ap_lst, ap_cb, ap_isi, ap_rgl, ap_if, ap_not, tru_t, tru_f, ap_or, ap_and, ap_toB, ap_bNot, ap_bAnd, ap_bOr, ap_bCmp, boolO_some', ap_iE, ap_iR1, ap_iR2, ap_iEn, ap_iZip, ap_pN, ap_pS, ap_sl, call_ok, ap_call, callI_ok, ap_callIo, ap_hole, ls0, lsS, ap_bor', borE_int, borE_bool, ap_borT, borT_ok, ap_move, ap_sNil, ap_sPass, ap_seq, ap_asg, ap_asgs, ap_ret, ap_expr, ap_sIf, ap_for, ap_setIx, ap_mut, optE_some, tup0, tup1, tup2, tup3, lst0, lst1, lst2, lst3, aName, aCons, aNil, aTup2, Option.bind_some, Option.map_some, List.set_cons_zero, List.set_cons_succ, List.cons_append, List.nil_append, if_true, if_false, Bool.false_eq_true, if_pos, reduceIte, add_ii, rg2_QR (show f ≤ 1000000 by omega)]) rfl rfl (by rw [QR_len]; exact small (by omega)) (fun _ _ => rfl) (fun y _ => by
        have hs : pg.sem 39 "_law_sum_right" [.int (f : Nat), enc (List.replicate n y), enc (least n rows)] = .ok (.bool (QS f (List.replicate n y) (least n rows))) .none := by
          rw [s__law_sum_right 38]; exact sright_ok (n := n) hL f _ List.length_replicate
        simp only [bd_ok, sb_ok, tn_nx, tn_rt, tn_bk, tn_ct, lo_some, slo_some, vr0, vrS, ap_var, ap_const, ap_pure, ap_bin, ap_nil, ap_cons, ap_star, ap_tup, ap_lst, ap_cb, ap_isi, ap_rgl, ap_if, ap_not, tru_t, tru_f, ap_or, ap_and, ap_toB, ap_bNot, ap_bAnd, ap_bOr, ap_bCmp, boolO_some', ap_iE, ap_iR1, ap_iR2, ap_iEn, ap_iZip, ap_pN, ap_pS, ap_sl, call_ok, ap_call, callI_ok, ap_callIo, ap_hole, ls0, lsS, ap_bor', borE_int, borE_bool, ap_borT, borT_ok, ap_move, ap_sNil, ap_sPass, ap_seq, ap_asg, ap_asgs, ap_ret, ap_expr, ap_sIf, ap_for, ap_setIx, ap_mut, optE_some, tup0, tup1, tup2, tup3, lst0, lst1, lst2, lst3, aName, aCons, aNil, aTup2, Option.bind_some, Option.map_some, List.set_cons_zero, List.set_cons_succ, List.cons_append, List.nil_append, if_true, if_false, Bool.false_eq_true, if_pos, reduceIte, rep_tup h2 (show n ≤ 1000 by omega), hs, tru_b]) (fun _ _ _ => by simp only [bd_ok, sb_ok, tn_nx, tn_rt, tn_bk, tn_ct, lo_some, slo_some, vr0, vrS, ap_var, ap_const, ap_pure, ap_bin, ap_nil, ap_cons, ap_star, ap_tup, ap_lst, ap_cb, ap_isi, ap_rgl, ap_if, ap_not, tru_t, tru_f, ap_or, ap_and, ap_toB, ap_bNot, ap_bAnd, ap_bOr, ap_bCmp, boolO_some', ap_iE, ap_iR1, ap_iR2, ap_iEn, ap_iZip, ap_pN, ap_pS, ap_sl, call_ok, ap_call, callI_ok, ap_callIo, ap_hole, ls0, lsS, ap_bor', borE_int, borE_bool, ap_borT, borT_ok, ap_move, ap_sNil, ap_sPass, ap_seq, ap_asg, ap_asgs, ap_ret, ap_expr, ap_sIf, ap_for, ap_setIx, ap_mut, optE_some, tup0, tup1, tup2, tup3, lst0, lst1, lst2, lst3, aName, aCons, aNil, aTup2, Option.bind_some, Option.map_some, List.set_cons_zero, List.set_cons_succ, List.cons_append, List.nil_append, if_true, if_false, Bool.false_eq_true, if_pos, reduceIte]) (fun _ _ => rfl)
    have hOt : hTuple [.list (((QR f).filter fun y => QS f (List.replicate n y) (least n rows)).map .int)] = some (enc (ones f n (least n rows))) := rfl
    have hOl : (ones f n (least n rows)).length ≤ lineN := Nat.le_trans (List.length_filter_le _ _) (by rw [QR_len]; exact small (by omega))
    have hq1 : pg.sem 39 "one_quota" [.int (n : Nat), enc rows, .int (f : Nat)] = .ok (enc (ones f n (least n rows))) .none := p_oneq hn hr hrl enc hdr (fun _ => rfl) 32 f h2 (by omega)
    have hsm := p_same (enc (ones f n (least n rows))) (enc_small _ hOl) (Nat.lt_of_le_of_lt (Enc.dle _) (by decide))
    have hA : ∀ (z : Int) (g : Int → Say → Nat) (mm : Int), True := fun _ _ _ => trivial
    have hall : ∀ (mm : Int) (ρ1 : Env), True := fun _ _ => trivial
    by_cases c : 1 < f
    · have cA : ∀ (m : Int) (oa : Option Dat), cLc (iE (cVar 4)) (aName 11) (bCmp hGt (cCB hLen (cCons (cLc (iE (cVar 11)) (aTup 2 (aCons (aName 7) (aCons (aName 20) (aNil)))) (bCmp hEq (cVar 20) (cConst (.int m))) (cConst (.int 1)) [7, 20]) (cNil))) (cConst (.int 1))) (cVar 11) [11] [some (script ns), some (.list u.d), some (.int (n : Nat)), some (enc rows), some (enc (least n rows)), some (.int (size : Nat)), some (.list ((EVQ size n).map enc)), oq, some (.list ((good size n (least n rows)).map enc)), some (.int (f : Nat)), none, none, some (enc (ones f n (least n rows))), none, none, oa, o4, none, none, none, none, none] = .ok (.list (((least n rows).filter fun s => decide ((1 : Int) < (cnt m s : Nat))).map enc)) [some (script ns), some (.list u.d), some (.int (n : Nat)), some (enc rows), some (enc (least n rows)), some (.int (size : Nat)), some (.list ((EVQ size n).map enc)), oq, some (.list ((good size n (least n rows)).map enc)), some (.int (f : Nat)), none, none, some (enc (ones f n (least n rows))), none, none, oa, o4, none, none, none, none, none] := fun m oa =>
        cLc_ok enc (fun s => [some (script ns), some (.list u.d), some (.int (n : Nat)), some (enc rows), some (enc (least n rows)), some (.int (size : Nat)), some (.list ((EVQ size n).map enc)), oq, some (.list ((good size n (least n rows)).map enc)), some (.int (f : Nat)), none, some (enc s), some (enc (ones f n (least n rows))), none, none, oa, o4, none, none, none, none, none]) (fun s => decide ((1 : Int) < (cnt m s : Nat))) enc (least n rows) (by simp only [bd_ok, sb_ok, tn_nx, tn_rt, tn_bk, tn_ct, lo_some, slo_some, vr0, vrS, ap_var, ap_const, ap_pure, ap_bin, ap_nil, ap_cons, ap_star, ap_tup, ap_lst, ap_cb, ap_isi, ap_rgl, ap_if, ap_not, tru_t, tru_f, ap_or, ap_and, ap_toB, ap_bNot, ap_bAnd, ap_bOr, ap_bCmp, boolO_some', ap_iE, ap_iR1, ap_iR2, ap_iEn, ap_iZip, ap_pN, ap_pS, ap_sl, call_ok, ap_call, callI_ok, ap_callIo, ap_hole, ls0, lsS, ap_bor', borE_int, borE_bool, ap_borT, borT_ok, ap_move, ap_sNil, ap_sPass, ap_seq, ap_asg, ap_asgs, ap_ret, ap_expr, ap_sIf, ap_for, ap_setIx, ap_mut, optE_some, tup0, tup1, tup2, tup3, lst0, lst1, lst2, lst3, aName, aCons, aNil, aTup2, Option.bind_some, Option.map_some, List.set_cons_zero, List.set_cons_succ, List.cons_append, List.nil_append, if_true, if_false, Bool.false_eq_true, if_pos, reduceIte, drawn_says]) rfl rfl hL.1 (fun _ _ => rfl) (fun s ms => by
          have := cnt_lc m s (hL.2 s ms).1 (i := 11) (j := 7) (k := 20) (ρ := [some (script ns), some (.list u.d), some (.int (n : Nat)), some (enc rows), some (enc (least n rows)), some (.int (size : Nat)), some (.list ((EVQ size n).map enc)), oq, some (.list ((good size n (least n rows)).map enc)), some (.int (f : Nat)), none, some (enc s), some (enc (ones f n (least n rows))), none, none, oa, o4, none, none, none, none, none]) (fun a => [some (script ns), some (.list u.d), some (.int (n : Nat)), some (enc rows), some (enc (least n rows)), some (.int (size : Nat)), some (.list ((EVQ size n).map enc)), some (.int a.1), some (.list ((good size n (least n rows)).map enc)), some (.int (f : Nat)), none, some (enc s), some (enc (ones f n (least n rows))), none, none, oa, o4, none, none, none, some (.int a.2), none]) rfl rfl rfl (fun _ => rfl) (fun _ => rfl) (fun _ => rfl)
          simp only [ap_bCmp, this, bd_ok, ap_const, gt_ii, boolO_some', lo_some]) (fun _ _ _ => by simp only [bd_ok, sb_ok, tn_nx, tn_rt, tn_bk, tn_ct, lo_some, slo_some, vr0, vrS, ap_var, ap_const, ap_pure, ap_bin, ap_nil, ap_cons, ap_star, ap_tup, ap_lst, ap_cb, ap_isi, ap_rgl, ap_if, ap_not, tru_t, tru_f, ap_or, ap_and, ap_toB, ap_bNot, ap_bAnd, ap_bOr, ap_bCmp, boolO_some', ap_iE, ap_iR1, ap_iR2, ap_iEn, ap_iZip, ap_pN, ap_pS, ap_sl, call_ok, ap_call, callI_ok, ap_callIo, ap_hole, ls0, lsS, ap_bor', borE_int, borE_bool, ap_borT, borT_ok, ap_move, ap_sNil, ap_sPass, ap_seq, ap_asg, ap_asgs, ap_ret, ap_expr, ap_sIf, ap_for, ap_setIx, ap_mut, optE_some, tup0, tup1, tup2, tup3, lst0, lst1, lst2, lst3, aName, aCons, aNil, aTup2, Option.bind_some, Option.map_some, List.set_cons_zero, List.set_cons_succ, List.cons_append, List.nil_append, if_true, if_false, Bool.false_eq_true, if_pos, reduceIte]) (fun _ _ => rfl)
      have c3 : cLc (iE (cVar 4)) (aName 11) (bCmp hGt (cCB hLen (cCons (cVar 11) (cNil))) (cConst (.int 2))) (cVar 11) [11] [some (script ns), some (.list u.d), some (.int (n : Nat)), some (enc rows), some (enc (least n rows)), some (.int (size : Nat)), some (.list ((EVQ size n).map enc)), oq, some (.list ((good size n (least n rows)).map enc)), some (.int (f : Nat)), none, none, some (enc (ones f n (least n rows))), none, none, some (.bool (decide ((least n rows).filter (fun s => decide ((1 : Int) < (cnt 0 s : Nat))) = []))), some (.bool (decide ((least n rows).filter (fun s => decide ((1 : Int) < (cnt 1 s : Nat))) = []))), none, none, none, none, none] = .ok (.list (((least n rows).filter fun s => decide ((2 : Int) < (s.length : Nat))).map enc)) [some (script ns), some (.list u.d), some (.int (n : Nat)), some (enc rows), some (enc (least n rows)), some (.int (size : Nat)), some (.list ((EVQ size n).map enc)), oq, some (.list ((good size n (least n rows)).map enc)), some (.int (f : Nat)), none, none, some (enc (ones f n (least n rows))), none, none, some (.bool (decide ((least n rows).filter (fun s => decide ((1 : Int) < (cnt 0 s : Nat))) = []))), some (.bool (decide ((least n rows).filter (fun s => decide ((1 : Int) < (cnt 1 s : Nat))) = []))), none, none, none, none, none] :=
        cLc_ok enc (fun s => [some (script ns), some (.list u.d), some (.int (n : Nat)), some (enc rows), some (enc (least n rows)), some (.int (size : Nat)), some (.list ((EVQ size n).map enc)), oq, some (.list ((good size n (least n rows)).map enc)), some (.int (f : Nat)), none, some (enc s), some (enc (ones f n (least n rows))), none, none, some (.bool (decide ((least n rows).filter (fun s => decide ((1 : Int) < (cnt 0 s : Nat))) = []))), some (.bool (decide ((least n rows).filter (fun s => decide ((1 : Int) < (cnt 1 s : Nat))) = []))), none, none, none, none, none]) (fun s => decide ((2 : Int) < (s.length : Nat))) enc (least n rows) (by simp only [bd_ok, sb_ok, tn_nx, tn_rt, tn_bk, tn_ct, lo_some, slo_some, vr0, vrS, ap_var, ap_const, ap_pure, ap_bin, ap_nil, ap_cons, ap_star, ap_tup, ap_lst, ap_cb, ap_isi, ap_rgl, ap_if, ap_not, tru_t, tru_f, ap_or, ap_and, ap_toB, ap_bNot, ap_bAnd, ap_bOr, ap_bCmp, boolO_some', ap_iE, ap_iR1, ap_iR2, ap_iEn, ap_iZip, ap_pN, ap_pS, ap_sl, call_ok, ap_call, callI_ok, ap_callIo, ap_hole, ls0, lsS, ap_bor', borE_int, borE_bool, ap_borT, borT_ok, ap_move, ap_sNil, ap_sPass, ap_seq, ap_asg, ap_asgs, ap_ret, ap_expr, ap_sIf, ap_for, ap_setIx, ap_mut, optE_some, tup0, tup1, tup2, tup3, lst0, lst1, lst2, lst3, aName, aCons, aNil, aTup2, Option.bind_some, Option.map_some, List.set_cons_zero, List.set_cons_succ, List.cons_append, List.nil_append, if_true, if_false, Bool.false_eq_true, if_pos, reduceIte, drawn_says]) rfl rfl hL.1 (fun _ _ => rfl) (fun s ms => by simp only [bd_ok, sb_ok, tn_nx, tn_rt, tn_bk, tn_ct, lo_some, slo_some, vr0, vrS, ap_var, ap_const, ap_pure, ap_bin, ap_nil, ap_cons, ap_star, ap_tup, ap_lst, ap_cb, ap_isi, ap_rgl, ap_if, ap_not, tru_t, tru_f, ap_or, ap_and, ap_toB, ap_bNot, ap_bAnd, ap_bOr, ap_bCmp, boolO_some', ap_iE, ap_iR1, ap_iR2, ap_iEn, ap_iZip, ap_pN, ap_pS, ap_sl, call_ok, ap_call, callI_ok, ap_callIo, ap_hole, ls0, lsS, ap_bor', borE_int, borE_bool, ap_borT, borT_ok, ap_move, ap_sNil, ap_sPass, ap_seq, ap_asg, ap_asgs, ap_ret, ap_expr, ap_sIf, ap_for, ap_setIx, ap_mut, optE_some, tup0, tup1, tup2, tup3, lst0, lst1, lst2, lst3, aName, aCons, aNil, aTup2, Option.bind_some, Option.map_some, List.set_cons_zero, List.set_cons_succ, List.cons_append, List.nil_append, if_true, if_false, Bool.false_eq_true, if_pos, reduceIte, len_say, gt_ii]) (fun _ _ _ => by simp only [bd_ok, sb_ok, tn_nx, tn_rt, tn_bk, tn_ct, lo_some, slo_some, vr0, vrS, ap_var, ap_const, ap_pure, ap_bin, ap_nil, ap_cons, ap_star, ap_tup, ap_lst, ap_cb, ap_isi, ap_rgl, ap_if, ap_not, tru_t, tru_f, ap_or, ap_and, ap_toB, ap_bNot, ap_bAnd, ap_bOr, ap_bCmp, boolO_some', ap_iE, ap_iR1, ap_iR2, ap_iEn, ap_iZip, ap_pN, ap_pS, ap_sl, call_ok, ap_call, callI_ok, ap_callIo, ap_hole, ls0, lsS, ap_bor', borE_int, borE_bool, ap_borT, borT_ok, ap_move, ap_sNil, ap_sPass, ap_seq, ap_asg, ap_asgs, ap_ret, ap_expr, ap_sIf, ap_for, ap_setIx, ap_mut, optE_some, tup0, tup1, tup2, tup3, lst0, lst1, lst2, lst3, aName, aCons, aNil, aTup2, Option.bind_some, Option.map_some, List.set_cons_zero, List.set_cons_succ, List.cons_append, List.nil_append, if_true, if_false, Bool.false_eq_true, if_pos, reduceIte]) (fun _ _ => rfl)
      have e0 : decide ((f : Int) ∈ ones f n (least n rows)) = decide ((least n rows).filter (fun s => decide ((1 : Int) < (cnt 0 s : Nat))) = []) := dec_iff (ones_f hM (by omega))
      have e1 : decide ((1 : Int) ∈ ones f n (least n rows)) = decide ((least n rows).filter (fun s => decide ((1 : Int) < (cnt 1 s : Nat))) = []) := dec_iff (ones_1 hM (by omega))
      refine ⟨_, (some (.int (f : Nat)), some (enc (ones f n (least n rows))), some (.bool (decide ((least n rows).filter (fun s => decide ((1 : Int) < (cnt 0 s : Nat))) = []))), some (.bool (decide ((least n rows).filter (fun s => decide ((1 : Int) < (cnt 1 s : Nat))) = [])))), rfl, ?_, trivial⟩
      have hc1 : decide ((1 : Int) < (f : Int)) = true := decide_eq_true (by omega)
      simp only [bd_ok, sb_ok, tn_nx, tn_rt, tn_bk, tn_ct, lo_some, slo_some, vr0, vrS, ap_var, ap_const, ap_pure, ap_bin, ap_nil, ap_cons, ap_star, ap_tup, ap_lst, ap_cb, ap_isi, ap_rgl, ap_if, ap_not, tru_t, tru_f, ap_or, ap_and, ap_toB, ap_bNot, ap_bAnd, ap_bOr, ap_bCmp, boolO_some', ap_iE, ap_iR1, ap_iR2, ap_iEn, ap_iZip, ap_pN, ap_pS, ap_sl, call_ok, ap_call, callI_ok, ap_callIo, ap_hole, ls0, lsS, ap_bor', borE_int, borE_bool, ap_borT, borT_ok, ap_move, ap_sNil, ap_sPass, ap_seq, ap_asg, ap_asgs, ap_ret, ap_expr, ap_sIf, ap_for, ap_setIx, ap_mut, optE_some, tup0, tup1, tup2, tup3, lst0, lst1, lst2, lst3, aName, aCons, aNil, aTup2, Option.bind_some, Option.map_some, List.set_cons_zero, List.set_cons_succ, List.cons_append, List.nil_append, if_true, if_false, Bool.false_eq_true, if_pos, reduceIte, hcO, hOt, hq1, hsm, tru_b, Bool.not_true, gt_ii, hc1, cA, eq_nil_say, in_ones, e0, e1, ne_bb, decide_true, eq_ii]
      by_cases d : (f : Int) = 3
      · have e3 : f = 3 := by omega
        subst e3
        have e2 : decide ((2 : Int) ∈ ones 3 n (least n rows)) = decide ((least n rows).filter (fun s => decide ((2 : Int) < (s.length : Nat))) = []) := dec_iff (ones_2 hM)
        rw [decide_eq_true d]
        simp only [bd_ok, sb_ok, tn_nx, tn_rt, tn_bk, tn_ct, lo_some, slo_some, vr0, vrS, ap_var, ap_const, ap_pure, ap_bin, ap_nil, ap_cons, ap_star, ap_tup, ap_lst, ap_cb, ap_isi, ap_rgl, ap_if, ap_not, tru_t, tru_f, ap_or, ap_and, ap_toB, ap_bNot, ap_bAnd, ap_bOr, ap_bCmp, boolO_some', ap_iE, ap_iR1, ap_iR2, ap_iEn, ap_iZip, ap_pN, ap_pS, ap_sl, call_ok, ap_call, callI_ok, ap_callIo, ap_hole, ls0, lsS, ap_bor', borE_int, borE_bool, ap_borT, borT_ok, ap_move, ap_sNil, ap_sPass, ap_seq, ap_asg, ap_asgs, ap_ret, ap_expr, ap_sIf, ap_for, ap_setIx, ap_mut, optE_some, tup0, tup1, tup2, tup3, lst0, lst1, lst2, lst3, aName, aCons, aNil, aTup2, Option.bind_some, Option.map_some, List.set_cons_zero, List.set_cons_succ, List.cons_append, List.nil_append, if_true, if_false, Bool.false_eq_true, if_pos, reduceIte, c3, eq_nil_say, e2, ne_bb, decide_true, Bool.not_true]
      · rw [decide_eq_false d]
        simp only [bd_ok, sb_ok, tn_nx, tn_rt, tn_bk, tn_ct, lo_some, slo_some, vr0, vrS, ap_var, ap_const, ap_pure, ap_bin, ap_nil, ap_cons, ap_star, ap_tup, ap_lst, ap_cb, ap_isi, ap_rgl, ap_if, ap_not, tru_t, tru_f, ap_or, ap_and, ap_toB, ap_bNot, ap_bAnd, ap_bOr, ap_bCmp, boolO_some', ap_iE, ap_iR1, ap_iR2, ap_iEn, ap_iZip, ap_pN, ap_pS, ap_sl, call_ok, ap_call, callI_ok, ap_callIo, ap_hole, ls0, lsS, ap_bor', borE_int, borE_bool, ap_borT, borT_ok, ap_move, ap_sNil, ap_sPass, ap_seq, ap_asg, ap_asgs, ap_ret, ap_expr, ap_sIf, ap_for, ap_setIx, ap_mut, optE_some, tup0, tup1, tup2, tup3, lst0, lst1, lst2, lst3, aName, aCons, aNil, aTup2, Option.bind_some, Option.map_some, List.set_cons_zero, List.set_cons_succ, List.cons_append, List.nil_append, if_true, if_false, Bool.false_eq_true, if_pos, reduceIte]
    · have e1 : f = 1 := by omega
      subst e1
      refine ⟨_, (some (.int (1 : Nat)), some (enc (ones 1 n (least n rows))), o3, o4), rfl, ?_, trivial⟩
      have hc1 : decide ((1 : Int) < ((1 : Nat) : Int)) = false := decide_eq_false (by omega)
      have ho : ones 1 n (least n rows) = [1] := ones_one hM
      have hne : hNe (enc (ones 1 n (least n rows))) (.tuple [.int 1]) = some (.bool false) := by
        rw [tup_one, ne_ones, ho]; rfl
      simp only [bd_ok, sb_ok, tn_nx, tn_rt, tn_bk, tn_ct, lo_some, slo_some, vr0, vrS, ap_var, ap_const, ap_pure, ap_bin, ap_nil, ap_cons, ap_star, ap_tup, ap_lst, ap_cb, ap_isi, ap_rgl, ap_if, ap_not, tru_t, tru_f, ap_or, ap_and, ap_toB, ap_bNot, ap_bAnd, ap_bOr, ap_bCmp, boolO_some', ap_iE, ap_iR1, ap_iR2, ap_iEn, ap_iZip, ap_pN, ap_pS, ap_sl, call_ok, ap_call, callI_ok, ap_callIo, ap_hole, ls0, lsS, ap_bor', borE_int, borE_bool, ap_borT, borT_ok, ap_move, ap_sNil, ap_sPass, ap_seq, ap_asg, ap_asgs, ap_ret, ap_expr, ap_sIf, ap_for, ap_setIx, ap_mut, optE_some, tup0, tup1, tup2, tup3, lst0, lst1, lst2, lst3, aName, aCons, aNil, aTup2, Option.bind_some, Option.map_some, List.set_cons_zero, List.set_cons_succ, List.cons_append, List.nil_append, if_true, if_false, Bool.false_eq_true, if_pos, reduceIte, hcO, hOt, hq1, hsm, tru_b, Bool.not_true, gt_ii, hc1, hne])
  obtain ⟨⟨o1, o2, o3, o4⟩, h, _⟩ := loop
  exact ⟨o1, o2, o3, o4, h⟩
end L2.PV
set_option Elab.async false
set_option linter.all false
set_option maxRecDepth 100000
set_option maxHeartbeats 4000000
namespace L2.PV
open PySem PySem.Spec PyProof.Rows
open Enc (enc)

theorem good_mem {size n : Nat} {L : List Say} {p : Quo} (hp : p ∈ EVQ size n) : decide (p ∈ good size n L) = QS size p L := by
  unfold good
  rw [Bool.eq_iff_iff, decide_eq_true_eq, List.mem_filter]
  exact ⟨fun h => h.2, fun h => ⟨hp, h⟩⟩
theorem in_good (p : Quo) (l : List Quo) : hIn (enc p) (.list (l.map enc)) = some (.bool (decide (p ∈ l))) := (hIn_lst (α := Quo) (by decide) p l).trans (congrArg (fun b => some (PyData.bool b)) (dec_eq _ _))
theorem cut_mem {α : Type} {l : List α} {lo hi : Option Int} {x : α} (h : x ∈ cutA l lo hi) : x ∈ l := (cutA_sub l lo hi).subset h
theorem okB (b : Bool) : okD (.bool b) = true := Eq.trans rfl rfl
theorem law_turned (ns : List Int) (u : Urn) {n size : Nat} (hn : n ≤ 13) {rows T : List (List Int)} {q : Int} (hT : T.Perm (rows.map (flip q 1))) (hq : 0 ≤ q ∧ q < n) (hr : ∀ r ∈ rows, r.length = n) (hrl : rows.length ≤ lineN) (a1 a2 a3 a4 : Option Dat) : ∃ o1 o2, forL (aName 11) (sSeq (sAsg (cBin hAdd (cBin hAdd (cSl (cVar 11) (pNone) (pSome (cVar 7))) (cTup (cCons (cBin hSub (cBin hAdd (cVar 5) (cConst (.int 1))) (cBin hIx (cVar 11) (cVar 7))) (cNil)))) (cSl (cVar 11) (pSome (cBin hAdd (cVar 7) (cConst (.int 1)))) (pNone))) (aName 13)) (sSeq (sIf (bNot (toB (cCall ((pg.sem 39) "_law_same") (cCons (cCall ((pg.sem 39) "quotas_sound") (cCons (cVar 2) (cCons (cVar 10) (cCons (cVar 5) (cCons (cVar 13) (cNil)))))) (cCons (cBin hIn (cVar 11) (cVar 8)) (cNil)))))) (sSeq (sRet (cConst (.bool false))) (sNil)) (sNil)) (sNil))) ((cutA (EVQ size n) none (some 30)).map enc) [some (script ns), some (.list u.d), some (.int (n : Nat)), some (enc rows), some (enc (least n rows)), some (.int (size : Nat)), some (.list ((EVQ size n).map enc)), some (.int q), some (.list ((good size n (least n rows)).map enc)), a1, some (enc T), none, a2, none, none, a3, a4, none, none, none, none, none] = .nx [some (script ns), some (.list u.d), some (.int (n : Nat)), some (enc rows), some (enc (least n rows)), some (.int (size : Nat)), some (.list ((EVQ size n).map enc)), some (.int q), some (.list ((good size n (least n rows)).map enc)), a1, some (enc T), o1, a2, o2, none, a3, a4, none, none, none, none, none] := by
  have hTr : ∀ r ∈ T, r.length = n := fun r h => by
    obtain ⟨r0, h0, rfl⟩ := List.mem_map.mp (hT.mem_iff.mp h)
    unfold flip
    rw [List.length_set]
    exact hr r0 h0
  have hTl : T.length ≤ lineN := by rw [hT.length_eq, List.length_map]; exact hrl
  have hdT : drawn (enc T) = some (T.map enc) := rfl
  have loop := forL_inv (τ := Option Dat × Option Dat) (f := aName 11) (b := sSeq (sAsg (cBin hAdd (cBin hAdd (cSl (cVar 11) (pNone) (pSome (cVar 7))) (cTup (cCons (cBin hSub (cBin hAdd (cVar 5) (cConst (.int 1))) (cBin hIx (cVar 11) (cVar 7))) (cNil)))) (cSl (cVar 11) (pSome (cBin hAdd (cVar 7) (cConst (.int 1)))) (pNone))) (aName 13)) (sSeq (sIf (bNot (toB (cCall ((pg.sem 39) "_law_same") (cCons (cCall ((pg.sem 39) "quotas_sound") (cCons (cVar 2) (cCons (cVar 10) (cCons (cVar 5) (cCons (cVar 13) (cNil)))))) (cCons (cBin hIn (cVar 11) (cVar 8)) (cNil)))))) (sSeq (sRet (cConst (.bool false))) (sNil)) (sNil)) (sNil))) (enc (α := Quo)) (fun s => [some (script ns), some (.list u.d), some (.int (n : Nat)), some (enc rows), some (enc (least n rows)), some (.int (size : Nat)), some (.list ((EVQ size n).map enc)), some (.int q), some (.list ((good size n (least n rows)).map enc)), a1, some (enc T), s.1, a2, s.2, none, a3, a4, none, none, none, none, none]) (fun _ => True) (cutA (EVQ size n) none (some 30)) (none, none) trivial (fun s p hp _ => by
    obtain ⟨o1, o2⟩ := s
    have hp := cut_mem hp
    have hpl := (EVQ_mem size n p hp).1
    have hfl := flip_run p q ((size : Int) + 1) (by rw [hpl]; exact hq) (by rw [hpl]; omega) (i := 11) (j := 7) (g := cBin hAdd (cVar 5) (cConst (.int 1))) (ρ := [some (script ns), some (.list u.d), some (.int (n : Nat)), some (enc rows), some (enc (least n rows)), some (.int (size : Nat)), some (.list ((EVQ size n).map enc)), some (.int q), some (.list ((good size n (least n rows)).map enc)), a1, some (enc T), some (enc p), a2, o2, none, a3, a4, none, none, none, none, none]) rfl rfl rfl
    have hs : pg.sem 39 "quotas_sound" [.int (n : Nat), enc T, .int (size : Nat), enc (flip q ((size : Int) + 1) p)] = .ok (.bool (QS size p (least n rows))) .none := by
      rw [p_qsound hn hTr hTl enc hdT (fun _ => rfl) 33 size _ (by unfold flip; rw [List.length_set]; exact hpl), QS_turned hT hq hr hpl]
    have hsm := p_same (.bool (QS size p (least n rows))) (okB _) (by show 0 < 39; decide)
    refine ⟨_, (some (enc p), some (enc (flip q ((size : Int) + 1) p))), rfl, ?_, trivial⟩
    simp only [ap_seq, ap_asg, List.set_cons_zero, List.set_cons_succ, hfl]
    simp only [bd_ok, sb_ok, tn_nx, tn_rt, tn_bk, tn_ct, lo_some, slo_some, vr0, vrS, ap_var, ap_const, ap_pure, ap_bin, ap_nil, ap_cons, ap_star, ap_tup, ap_lst, ap_cb, ap_isi, ap_rgl, ap_if, ap_not, tru_t, tru_f, ap_or, ap_and, ap_toB, ap_bNot, ap_bAnd, ap_bOr, ap_bCmp, boolO_some', ap_iE, ap_iR1, ap_iR2, ap_iEn, ap_iZip, ap_pN, ap_pS, ap_sl, call_ok, ap_call, callI_ok, ap_callIo, ap_hole, ls0, lsS, ap_bor', borE_int, borE_bool, ap_borT, borT_ok, ap_move, ap_sNil, ap_sPass, ap_seq, ap_asg, ap_asgs, ap_ret, ap_expr, ap_sIf, ap_for, ap_setIx, ap_mut, optE_some, tup0, tup1, tup2, tup3, lst0, lst1, lst2, lst3, aName, aCons, aNil, aTup2, Option.bind_some, Option.map_some, List.set_cons_zero, List.set_cons_succ, List.cons_append, List.nil_append, if_true, if_false, Bool.false_eq_true, if_pos, reduceIte, hs, in_good, good_mem hp, hsm, tru_b, Bool.not_true])
  obtain ⟨⟨o1, o2⟩, h, _⟩ := loop
  exact ⟨o1, o2, h⟩
theorem isNot_bb {a b : Bool} : hIsNot (.bool a) (.bool b) = some (.bool (a != b)) := Eq.trans rfl rfl
theorem eq_ones {α : Type} (xs ys : List α) : hEq (.list (xs.map fun _ => PyData.int 1)) (.list (ys.map fun _ => PyData.int 1)) = some (.bool (decide (xs.length = ys.length))) := by
  have := hEq_lst (α := Int) (by decide) (xs.map fun _ => 1) (ys.map fun _ => 1)
  rw [List.map_map, List.map_map] at this
  have e : ∀ zs : List α, zs.map (enc ∘ fun _ => (1 : Int)) = zs.map fun _ => PyData.int 1 := fun _ => rfl
  rw [e, e] at this
  rw [this]
  refine congrArg (fun b => some (PyData.bool b)) (dec_iff ⟨fun h => ?_, fun h => ?_⟩)
  · have := congrArg List.length h
    rwa [List.length_map, List.length_map] at this
  · refine List.ext_getElem (by rw [List.length_map, List.length_map]; exact h) fun i h1 h2 => ?_
    rw [List.getElem_map, List.getElem_map]
theorem hList_l {ds : List Dat} : hList [.list ds] = some (.list ds) := Eq.trans rfl rfl
theorem law_good (ns : List Int) (u : Urn) {n size : Nat} (hn : n ≤ 13) (hsz : size ≤ 3) {rows : List (List Int)} (hr : ∀ r ∈ rows, r.length = n) (hrl : rows.length ≤ lineN) (oq otu oown oth a1 a2 a3 a4 : Option Dat) : ∃ o1 o2, forL (aName 11) (sSeq (sAsg (cCB hTuple (cCons (cLc (iE (cVar 11)) (aName 17) (M.pure true) (cBin hMul (cConst (.int 2)) (cVar 17)) [17]) (cNil))) (aName 14)) (sSeq (sIf (bAnd (bCmp hEq (cLc (iE (cVar 4)) (aName 19) (bCmp hEq (cCB hLen (cCons (cLc (iE (cVar 19)) (aTup 2 (aCons (aName 21) (aCons (aName 20) (aNil)))) (bCmp hEq (cVar 20) (cConst (.int 0))) (cConst (.int 1)) [21, 20]) (cNil))) (cConst (.int 0))) (cConst (.int 1)) [19]) (cCB hList (cCons (cLc (iE (cVar 4)) (aName 19) (M.pure true) (cConst (.int 1)) [19]) (cNil)))) (bCmp hIsNot (cCall ((pg.sem 39) "quotas_sound") (cCons (cVar 2) (cCons (cVar 3) (cCons (cBin hMul (cConst (.int 2)) (cVar 5)) (cCons (cVar 14) (cNil)))))) (cConst (.bool true)))) (sSeq (sRet (cConst (.bool false))) (sNil)) (sNil)) (sNil))) ((cutA (good size n (least n rows)) none (some 20)).map enc) [some (script ns), some (.list u.d), some (.int (n : Nat)), some (enc rows), some (enc (least n rows)), some (.int (size : Nat)), some (.list ((EVQ size n).map enc)), oq, some (.list ((good size n (least n rows)).map enc)), a1, otu, oown, a2, oth, none, a3, a4, none, none, none, none, none] = .nx [some (script ns), some (.list u.d), some (.int (n : Nat)), some (enc rows), some (enc (least n rows)), some (.int (size : Nat)), some (.list ((EVQ size n).map enc)), oq, some (.list ((good size n (least n rows)).map enc)), a1, otu, o1, a2, oth, o2, a3, a4, none, none, none, none, none] := by
  have hL := LOk_least hn rows
  have hM := Marks_least (n := n) (rows := rows)
  have hdr : drawn (enc rows) = some (rows.map enc) := rfl
  have loop := forL_inv (τ := Option Dat × Option Dat) (f := aName 11) (b := sSeq (sAsg (cCB hTuple (cCons (cLc (iE (cVar 11)) (aName 17) (M.pure true) (cBin hMul (cConst (.int 2)) (cVar 17)) [17]) (cNil))) (aName 14)) (sSeq (sIf (bAnd (bCmp hEq (cLc (iE (cVar 4)) (aName 19) (bCmp hEq (cCB hLen (cCons (cLc (iE (cVar 19)) (aTup 2 (aCons (aName 21) (aCons (aName 20) (aNil)))) (bCmp hEq (cVar 20) (cConst (.int 0))) (cConst (.int 1)) [21, 20]) (cNil))) (cConst (.int 0))) (cConst (.int 1)) [19]) (cCB hList (cCons (cLc (iE (cVar 4)) (aName 19) (M.pure true) (cConst (.int 1)) [19]) (cNil)))) (bCmp hIsNot (cCall ((pg.sem 39) "quotas_sound") (cCons (cVar 2) (cCons (cVar 3) (cCons (cBin hMul (cConst (.int 2)) (cVar 5)) (cCons (cVar 14) (cNil)))))) (cConst (.bool true)))) (sSeq (sRet (cConst (.bool false))) (sNil)) (sNil)) (sNil))) (enc (α := Quo)) (fun s => [some (script ns), some (.list u.d), some (.int (n : Nat)), some (enc rows), some (enc (least n rows)), some (.int (size : Nat)), some (.list ((EVQ size n).map enc)), oq, some (.list ((good size n (least n rows)).map enc)), a1, otu, s.1, a2, oth, s.2, a3, a4, none, none, none, none, none]) (fun _ => True) (cutA (good size n (least n rows)) none (some 20)) (oown, none) trivial (fun s p hp _ => by
    obtain ⟨o1, o2⟩ := s
    have hp := cut_mem hp
    have hpm := List.mem_filter.mp hp
    have hpl := (EVQ_mem size n p hpm.1).1
    have hw := cLc_map (gi := iE (cVar 11)) (f := aName 17) (e := cBin hMul (cConst (.int 2)) (cVar 17)) (vs := [17]) (ρ := [some (script ns), some (.list u.d), some (.int (n : Nat)), some (enc rows), some (enc (least n rows)), some (.int (size : Nat)), some (.list ((EVQ size n).map enc)), oq, some (.list ((good size n (least n rows)).map enc)), a1, otu, some (enc p), a2, oth, o2, a3, a4, none, none, none, none, none]) PyData.int (fun x => [some (script ns), some (.list u.d), some (.int (n : Nat)), some (enc rows), some (enc (least n rows)), some (.int (size : Nat)), some (.list ((EVQ size n).map enc)), oq, some (.list ((good size n (least n rows)).map enc)), a1, otu, some (enc p), a2, oth, o2, a3, a4, some (.int x), none, none, none, none]) (fun x => .int (2 * x)) p
      (by have : drawn (enc p) = some (p.map .int) := rfl
          simp only [bd_ok, sb_ok, tn_nx, tn_rt, tn_bk, tn_ct, lo_some, slo_some, vr0, vrS, ap_var, ap_const, ap_pure, ap_bin, ap_nil, ap_cons, ap_star, ap_tup, ap_lst, ap_cb, ap_isi, ap_rgl, ap_if, ap_not, tru_t, tru_f, ap_or, ap_and, ap_toB, ap_bNot, ap_bAnd, ap_bOr, ap_bCmp, boolO_some', ap_iE, ap_iR1, ap_iR2, ap_iEn, ap_iZip, ap_pN, ap_pS, ap_sl, call_ok, ap_call, callI_ok, ap_callIo, ap_hole, ls0, lsS, ap_bor', borE_int, borE_bool, ap_borT, borT_ok, ap_move, ap_sNil, ap_sPass, ap_seq, ap_asg, ap_asgs, ap_ret, ap_expr, ap_sIf, ap_for, ap_setIx, ap_mut, optE_some, tup0, tup1, tup2, tup3, lst0, lst1, lst2, lst3, aName, aCons, aNil, aTup2, Option.bind_some, Option.map_some, List.set_cons_zero, List.set_cons_succ, List.cons_append, List.nil_append, if_true, if_false, Bool.false_eq_true, if_pos, reduceIte, this]) rfl rfl (by rw [hpl]; exact Nat.le_trans hn (by decide)) (fun _ _ => rfl) (fun x _ => by
        simp only [bd_ok, sb_ok, tn_nx, tn_rt, tn_bk, tn_ct, lo_some, slo_some, vr0, vrS, ap_var, ap_const, ap_pure, ap_bin, ap_nil, ap_cons, ap_star, ap_tup, ap_lst, ap_cb, ap_isi, ap_rgl, ap_if, ap_not, tru_t, tru_f, ap_or, ap_and, ap_toB, ap_bNot, ap_bAnd, ap_bOr, ap_bCmp, boolO_some', ap_iE, ap_iR1, ap_iR2, ap_iEn, ap_iZip, ap_pN, ap_pS, ap_sl, call_ok, ap_call, callI_ok, ap_callIo, ap_hole, ls0, lsS, ap_bor', borE_int, borE_bool, ap_borT, borT_ok, ap_move, ap_sNil, ap_sPass, ap_seq, ap_asg, ap_asgs, ap_ret, ap_expr, ap_sIf, ap_for, ap_setIx, ap_mut, optE_some, tup0, tup1, tup2, tup3, lst0, lst1, lst2, lst3, aName, aCons, aNil, aTup2, Option.bind_some, Option.map_some, List.set_cons_zero, List.set_cons_succ, List.cons_append, List.nil_append, if_true, if_false, Bool.false_eq_true, if_pos, reduceIte, mul_il (show -(2 ^ 64) < (2 : Int) ∧ (2 : Int) < 2 ^ 64 by decide)]) (fun _ _ => rfl)
    have hwt : hTuple [.list (p.map fun x => PyData.int (2 * x))] = some (enc (p.map fun x => 2 * x)) := by
      show some (PyData.tuple (p.map fun x => PyData.int (2 * x))) = _
      rw [enc_list, List.map_map]
      rfl
    have hc := cLc_ok (gi := iE (cVar 4)) (f := aName 19) (t := bCmp hEq (cCB hLen (cCons (cLc (iE (cVar 19)) (aTup 2 (aCons (aName 21) (aCons (aName 20) (aNil)))) (bCmp hEq (cVar 20) (cConst (.int 0))) (cConst (.int 1)) [21, 20]) (cNil))) (cConst (.int 0))) (e := cConst (.int 1)) (vs := [19]) (ρ := [some (script ns), some (.list u.d), some (.int (n : Nat)), some (enc rows), some (enc (least n rows)), some (.int (size : Nat)), some (.list ((EVQ size n).map enc)), oq, some (.list ((good size n (least n rows)).map enc)), a1, otu, some (enc p), a2, oth, some (enc (p.map fun x => 2 * x)), a3, a4, none, none, none, none, none]) enc (fun s => [some (script ns), some (.list u.d), some (.int (n : Nat)), some (enc rows), some (enc (least n rows)), some (.int (size : Nat)), some (.list ((EVQ size n).map enc)), oq, some (.list ((good size n (least n rows)).map enc)), a1, otu, some (enc p), a2, oth, some (enc (p.map fun x => 2 * x)), a3, a4, none, none, some (enc s), none, none]) (fun s => decide ((cnt 0 s : Int) = 0)) (fun _ => .int 1) (least n rows)
      (by simp only [bd_ok, sb_ok, tn_nx, tn_rt, tn_bk, tn_ct, lo_some, slo_some, vr0, vrS, ap_var, ap_const, ap_pure, ap_bin, ap_nil, ap_cons, ap_star, ap_tup, ap_lst, ap_cb, ap_isi, ap_rgl, ap_if, ap_not, tru_t, tru_f, ap_or, ap_and, ap_toB, ap_bNot, ap_bAnd, ap_bOr, ap_bCmp, boolO_some', ap_iE, ap_iR1, ap_iR2, ap_iEn, ap_iZip, ap_pN, ap_pS, ap_sl, call_ok, ap_call, callI_ok, ap_callIo, ap_hole, ls0, lsS, ap_bor', borE_int, borE_bool, ap_borT, borT_ok, ap_move, ap_sNil, ap_sPass, ap_seq, ap_asg, ap_asgs, ap_ret, ap_expr, ap_sIf, ap_for, ap_setIx, ap_mut, optE_some, tup0, tup1, tup2, tup3, lst0, lst1, lst2, lst3, aName, aCons, aNil, aTup2, Option.bind_some, Option.map_some, List.set_cons_zero, List.set_cons_succ, List.cons_append, List.nil_append, if_true, if_false, Bool.false_eq_true, if_pos, reduceIte, drawn_says]) rfl rfl hL.1 (fun _ _ => rfl) (fun s ms => by
        have := cnt_lc 0 s (hL.2 s ms).1 (i := 19) (j := 21) (k := 20) (ρ := [some (script ns), some (.list u.d), some (.int (n : Nat)), some (enc rows), some (enc (least n rows)), some (.int (size : Nat)), some (.list ((EVQ size n).map enc)), oq, some (.list ((good size n (least n rows)).map enc)), a1, otu, some (enc p), a2, oth, some (enc (p.map fun x => 2 * x)), a3, a4, none, none, some (enc s), none, none]) (fun a => [some (script ns), some (.list u.d), some (.int (n : Nat)), some (enc rows), some (enc (least n rows)), some (.int (size : Nat)), some (.list ((EVQ size n).map enc)), oq, some (.list ((good size n (least n rows)).map enc)), a1, otu, some (enc p), a2, oth, some (enc (p.map fun x => 2 * x)), a3, a4, none, none, some (enc s), some (.int a.2), some (.int a.1)]) rfl rfl rfl (fun _ => rfl) (fun _ => rfl) (fun _ => rfl)
        simp only [ap_bCmp, this, bd_ok, ap_const, eq_ii, boolO_some', lo_some]) (fun _ _ _ => by simp only [bd_ok, sb_ok, tn_nx, tn_rt, tn_bk, tn_ct, lo_some, slo_some, vr0, vrS, ap_var, ap_const, ap_pure, ap_bin, ap_nil, ap_cons, ap_star, ap_tup, ap_lst, ap_cb, ap_isi, ap_rgl, ap_if, ap_not, tru_t, tru_f, ap_or, ap_and, ap_toB, ap_bNot, ap_bAnd, ap_bOr, ap_bCmp, boolO_some', ap_iE, ap_iR1, ap_iR2, ap_iEn, ap_iZip, ap_pN, ap_pS, ap_sl, call_ok, ap_call, callI_ok, ap_callIo, ap_hole, ls0, lsS, ap_bor', borE_int, borE_bool, ap_borT, borT_ok, ap_move, ap_sNil, ap_sPass, ap_seq, ap_asg, ap_asgs, ap_ret, ap_expr, ap_sIf, ap_for, ap_setIx, ap_mut, optE_some, tup0, tup1, tup2, tup3, lst0, lst1, lst2, lst3, aName, aCons, aNil, aTup2, Option.bind_some, Option.map_some, List.set_cons_zero, List.set_cons_succ, List.cons_append, List.nil_append, if_true, if_false, Bool.false_eq_true, if_pos, reduceIte]) (fun _ _ => rfl)
    have hc2 := cLc_map (gi := iE (cVar 4)) (f := aName 19) (e := cConst (.int 1)) (vs := [19]) (ρ := [some (script ns), some (.list u.d), some (.int (n : Nat)), some (enc rows), some (enc (least n rows)), some (.int (size : Nat)), some (.list ((EVQ size n).map enc)), oq, some (.list ((good size n (least n rows)).map enc)), a1, otu, some (enc p), a2, oth, some (enc (p.map fun x => 2 * x)), a3, a4, none, none, none, none, none]) enc (fun s : Say => [some (script ns), some (.list u.d), some (.int (n : Nat)), some (enc rows), some (enc (least n rows)), some (.int (size : Nat)), some (.list ((EVQ size n).map enc)), oq, some (.list ((good size n (least n rows)).map enc)), a1, otu, some (enc p), a2, oth, some (enc (p.map fun x => 2 * x)), a3, a4, none, none, some (enc s), none, none]) (fun _ => .int 1) (least n rows)
      (by simp only [bd_ok, sb_ok, tn_nx, tn_rt, tn_bk, tn_ct, lo_some, slo_some, vr0, vrS, ap_var, ap_const, ap_pure, ap_bin, ap_nil, ap_cons, ap_star, ap_tup, ap_lst, ap_cb, ap_isi, ap_rgl, ap_if, ap_not, tru_t, tru_f, ap_or, ap_and, ap_toB, ap_bNot, ap_bAnd, ap_bOr, ap_bCmp, boolO_some', ap_iE, ap_iR1, ap_iR2, ap_iEn, ap_iZip, ap_pN, ap_pS, ap_sl, call_ok, ap_call, callI_ok, ap_callIo, ap_hole, ls0, lsS, ap_bor', borE_int, borE_bool, ap_borT, borT_ok, ap_move, ap_sNil, ap_sPass, ap_seq, ap_asg, ap_asgs, ap_ret, ap_expr, ap_sIf, ap_for, ap_setIx, ap_mut, optE_some, tup0, tup1, tup2, tup3, lst0, lst1, lst2, lst3, aName, aCons, aNil, aTup2, Option.bind_some, Option.map_some, List.set_cons_zero, List.set_cons_succ, List.cons_append, List.nil_append, if_true, if_false, Bool.false_eq_true, if_pos, reduceIte, drawn_says]) rfl rfl hL.1 (fun _ _ => rfl) (fun _ _ => by simp only [bd_ok, sb_ok, tn_nx, tn_rt, tn_bk, tn_ct, lo_some, slo_some, vr0, vrS, ap_var, ap_const, ap_pure, ap_bin, ap_nil, ap_cons, ap_star, ap_tup, ap_lst, ap_cb, ap_isi, ap_rgl, ap_if, ap_not, tru_t, tru_f, ap_or, ap_and, ap_toB, ap_bNot, ap_bAnd, ap_bOr, ap_bCmp, boolO_some', ap_iE, ap_iR1, ap_iR2, ap_iEn, ap_iZip, ap_pN, ap_pS, ap_sl, call_ok, ap_call, callI_ok, ap_callIo, ap_hole, ls0, lsS, ap_bor', borE_int, borE_bool, ap_borT, borT_ok, ap_move, ap_sNil, ap_sPass, ap_seq, ap_asg, ap_asgs, ap_ret, ap_expr, ap_sIf, ap_for, ap_setIx, ap_mut, optE_some, tup0, tup1, tup2, tup3, lst0, lst1, lst2, lst3, aName, aCons, aNil, aTup2, Option.bind_some, Option.map_some, List.set_cons_zero, List.set_cons_succ, List.cons_append, List.nil_append, if_true, if_false, Bool.false_eq_true, if_pos, reduceIte]) (fun _ _ => rfl)
    have hs : pg.sem 39 "quotas_sound" [.int (n : Nat), enc rows, .int (2 * (size : Int)), enc (p.map fun x => 2 * x)] = .ok (.bool (QS (2 * (size : Int)) (p.map fun x => 2 * x) (least n rows))) .none := p_qsound hn hr hrl enc hdr (fun _ => rfl) 33 _ _ (by rw [List.length_map]; exact hpl)
    refine ⟨_, (some (enc p), some (enc (p.map fun x => 2 * x))), rfl, ?_, trivial⟩
    simp only [bd_ok, sb_ok, tn_nx, tn_rt, tn_bk, tn_ct, lo_some, slo_some, vr0, vrS, ap_var, ap_const, ap_pure, ap_bin, ap_nil, ap_cons, ap_star, ap_tup, ap_lst, ap_cb, ap_isi, ap_rgl, ap_if, ap_not, tru_t, tru_f, ap_or, ap_and, ap_toB, ap_bNot, ap_bAnd, ap_bOr, ap_bCmp, boolO_some', ap_iE, ap_iR1, ap_iR2, ap_iEn, ap_iZip, ap_pN, ap_pS, ap_sl, call_ok, ap_call, callI_ok, ap_callIo, ap_hole, ls0, lsS, ap_bor', borE_int, borE_bool, ap_borT, borT_ok, ap_move, ap_sNil, ap_sPass, ap_seq, ap_asg, ap_asgs, ap_ret, ap_expr, ap_sIf, ap_for, ap_setIx, ap_mut, optE_some, tup0, tup1, tup2, tup3, lst0, lst1, lst2, lst3, aName, aCons, aNil, aTup2, Option.bind_some, Option.map_some, List.set_cons_zero, List.set_cons_succ, List.cons_append, List.nil_append, if_true, if_false, Bool.false_eq_true, if_pos, reduceIte, hw, hwt, hc, hc2, hList_l, eq_ones]
    by_cases c : ((least n rows).filter fun s => decide ((cnt 0 s : Int) = 0)).length = (least n rows).length
    · have h0 : ∀ s ∈ least n rows, cnt 0 s = 0 := fun s ms => by
        have e := List.length_filter_eq_length_iff.mp c s ms
        have e := of_decide_eq_true e
        omega
      have hd := QS_double hpm.2 h0 fun s ms a ha => (hM s ms a ha).2
      rw [decide_eq_true c]
      simp only [bd_ok, sb_ok, tn_nx, tn_rt, tn_bk, tn_ct, lo_some, slo_some, vr0, vrS, ap_var, ap_const, ap_pure, ap_bin, ap_nil, ap_cons, ap_star, ap_tup, ap_lst, ap_cb, ap_isi, ap_rgl, ap_if, ap_not, tru_t, tru_f, ap_or, ap_and, ap_toB, ap_bNot, ap_bAnd, ap_bOr, ap_bCmp, boolO_some', ap_iE, ap_iR1, ap_iR2, ap_iEn, ap_iZip, ap_pN, ap_pS, ap_sl, call_ok, ap_call, callI_ok, ap_callIo, ap_hole, ls0, lsS, ap_bor', borE_int, borE_bool, ap_borT, borT_ok, ap_move, ap_sNil, ap_sPass, ap_seq, ap_asg, ap_asgs, ap_ret, ap_expr, ap_sIf, ap_for, ap_setIx, ap_mut, optE_some, tup0, tup1, tup2, tup3, lst0, lst1, lst2, lst3, aName, aCons, aNil, aTup2, Option.bind_some, Option.map_some, List.set_cons_zero, List.set_cons_succ, List.cons_append, List.nil_append, if_true, if_false, Bool.false_eq_true, if_pos, reduceIte, mul_il (show -(2 ^ 64) < (2 : Int) ∧ (2 : Int) < 2 ^ 64 by decide), hs, hd, isNot_bb, bne_self_eq_false]
    · rw [decide_eq_false c]
      simp only [bd_ok, sb_ok, tn_nx, tn_rt, tn_bk, tn_ct, lo_some, slo_some, vr0, vrS, ap_var, ap_const, ap_pure, ap_bin, ap_nil, ap_cons, ap_star, ap_tup, ap_lst, ap_cb, ap_isi, ap_rgl, ap_if, ap_not, tru_t, tru_f, ap_or, ap_and, ap_toB, ap_bNot, ap_bAnd, ap_bOr, ap_bCmp, boolO_some', ap_iE, ap_iR1, ap_iR2, ap_iEn, ap_iZip, ap_pN, ap_pS, ap_sl, call_ok, ap_call, callI_ok, ap_callIo, ap_hole, ls0, lsS, ap_bor', borE_int, borE_bool, ap_borT, borT_ok, ap_move, ap_sNil, ap_sPass, ap_seq, ap_asg, ap_asgs, ap_ret, ap_expr, ap_sIf, ap_for, ap_setIx, ap_mut, optE_some, tup0, tup1, tup2, tup3, lst0, lst1, lst2, lst3, aName, aCons, aNil, aTup2, Option.bind_some, Option.map_some, List.set_cons_zero, List.set_cons_succ, List.cons_append, List.nil_append, if_true, if_false, Bool.false_eq_true, if_pos, reduceIte])
  obtain ⟨⟨o1, o2⟩, h, _⟩ := loop
  exact ⟨o1, o2, h⟩
end L2.PV
set_option Elab.async false
set_option linter.all false
set_option maxRecDepth 100000
set_option maxHeartbeats 4000000
namespace L2.PV
open PySem PySem.Spec PyProof.Rows
open Enc (enc)
theorem law_mem : d_law ∈ pg.defs := List.mem_of_getElem? (i := 22) rfl
def hk : PySem.W.Hook := hookE 4 pg
def obT (s : PySem.W.SharedT) : AlE := obsE 4 pg (HandSHeadRun.getT s)
theorem obT_eq (s : PySem.W.SharedT) : obT s = hk.obs s.abs := obsE_eq (HandSHeadRun.getT_eq s)
theorem top_run (w : World) : HandSHeadRun.RunEq RW (PySem.W.view RW.prog [lawAt]) hk obT 1500 others w := by
  intro os
  kernel_rfl

theorem okD_say (s : Say) (h : s.length ≤ lineN) : okD (enc s) = true := okD_tup h fun a _ => okD_two rfl rfl
theorem okD_least {n : Nat} (hn : n ≤ 13) (rows : List (List Int)) : okD (enc (least n rows)) = true := okD_tup (LOk_least hn rows).1 fun s hs => okD_say s ((LOk_least hn rows).2 s hs).1
theorem law_true (ns : List Int) (hl : ns.length ≤ 63) : pg.sem 40 "law" [script ns] = .ok (.bool true) .none := by
  rw [s_law 39]
  obtain ⟨cs, hcs, hc⟩ := cells_ok (φ := pg.sem 38) ns hl 1 (by decide)
  rw [← s__law_cells 38] at hc
  obtain ⟨u0, hb, hu0⟩ := box_ok (φ := pg.sem 38) 41183 43684788 cs hcs
  rw [← s__law_box 38] at hb
  obtain ⟨r1, u1, h1, hr1, hu1⟩ := take_ok (φ := pg.sem 38) u0 3 (n := 100000) (Urn.le hu0 (by decide)) (by decide)
  rw [← s__law_take 38] at h1
  obtain ⟨n, hnE⟩ : ∃ n : Nat, 2 + r1 = (n : Int) := ⟨(2 + r1).toNat, by omega⟩
  have h2 : 2 ≤ n := by omega
  have hn4 : n ≤ 4 := by omega
  have hn : n ≤ 13 := by omega
  have hp16 : 2 ^ n ≤ 16 := Nat.le_trans (Nat.pow_le_pow_right (by decide) hn4) (by decide)
  obtain ⟨rows, u2, hsub, hrw, hu2⟩ := some_rows_ok (φ := pg.sem 38) (ψ := pg.sem 37) (s__law_take 37) (n := n) (by rw [s__law_all_rows 37]; exact all_rows_ok (ψ := pg.sem 36) (s__law_pairs 36) n (by omega)) (by omega) u1 (k := 1000) (Urn.le hu1 (by omega))
  rw [← s__law_some_rows 38] at hrw
  have hr : ∀ r ∈ rows, r.length = n := fun r h => (AR_row n r (hsub.subset h)).1
  have hrl16 : rows.length ≤ 16 := by
    have := hsub.length_le
    rw [AR_len] at this
    omega
  have hrl : rows.length ≤ lineN := Nat.le_trans hrl16 (by decide)
  have hle := p_lleast 35 hn hr hrl
  have hls := p_least hn hr hrl enc (d := enc rows) rfl (fun _ => rfl) 36
  have hsame := p_same (enc (least n rows)) (okD_least hn rows) (Nat.lt_of_le_of_lt (Enc.dle _) (by decide))
  obtain ⟨r2, u3, h3, hr2, hu3⟩ := take_ok (φ := pg.sem 38) u2 3 (n := 500) (Urn.le hu2 (by decide)) (by decide)
  rw [← s__law_take 38] at h3
  obtain ⟨size, hsE⟩ : ∃ n : Nat, 1 + r2 = (n : Int) := ⟨(1 + r2).toNat, by omega⟩
  have hsz : size ≤ 3 := by omega
  obtain ⟨o, hev⟩ := law_every ns u3 hn hsz rows
  have hL := LOk_least hn rows
  have hEl : (EVQ size n).length ≤ lineN := Nat.le_trans (EVQ_len hsz n) (Nat.le_trans (three_le hn) (by decide))
  have hgd := cLc_ok (gi := iE (cVar 6)) (f := aName 11) (t := toB (cCall (pg.sem 39 "_law_sum_right") (cCons (cVar 5) (cCons (cVar 11) (cCons (cVar 4) (cNil)))))) (e := cVar 11) (vs := [11]) (ρ := [some (script ns), some (.list u3.d), some (.int (n : Nat)), some (enc rows), some (enc (least n rows)), some (.int (size : Nat)), some (.list ((EVQ size n).map enc)), o, none, none, none, none, none, none, none, none, none, none, none, none, none, none]) enc (fun p => [some (script ns), some (.list u3.d), some (.int (n : Nat)), some (enc rows), some (enc (least n rows)), some (.int (size : Nat)), some (.list ((EVQ size n).map enc)), o, none, none, none, some (enc p), none, none, none, none, none, none, none, none, none, none]) (fun p => QS size p (least n rows)) enc (EVQ size n)
    (by simp only [bd_ok, sb_ok, tn_nx, tn_rt, tn_bk, tn_ct, lo_some, slo_some, vr0, vrS, ap_var, ap_const, ap_pure, ap_bin, ap_nil, ap_cons, ap_star, ap_tup, ap_lst, ap_cb, ap_isi, ap_rgl, ap_if, ap_not, tru_t, tru_f, ap_or, ap_and, ap_toB, ap_bNot, ap_bAnd, ap_bOr, ap_bCmp, boolO_some', ap_iE, ap_iR1, ap_iR2, ap_iEn, ap_iZip, ap_pN, ap_pS, ap_sl, call_ok, ap_call, callI_ok, ap_callIo, ap_hole, ls0, lsS, ap_bor', borE_int, borE_bool, ap_borT, borT_ok, ap_move, ap_sNil, ap_sPass, ap_seq, ap_asg, ap_asgs, ap_ret, ap_expr, ap_sIf, ap_for, ap_setIx, ap_mut, optE_some, tup0, tup1, tup2, tup3, lst0, lst1, lst2, lst3, aName, aCons, aNil, aTup2, Option.bind_some, Option.map_some, List.set_cons_zero, List.set_cons_succ, List.cons_append, List.nil_append, if_true, if_false, Bool.false_eq_true, if_pos, reduceIte, drawn_l]) rfl rfl hEl (fun _ _ => rfl) (fun p hp => by
      have : pg.sem 39 "_law_sum_right" [.int (size : Nat), enc p, enc (least n rows)] = .ok (.bool (QS size p (least n rows))) .none := by rw [s__law_sum_right 38]; exact sright_ok (n := n) hL size p (EVQ_mem size n p hp).1
      simp only [bd_ok, sb_ok, tn_nx, tn_rt, tn_bk, tn_ct, lo_some, slo_some, vr0, vrS, ap_var, ap_const, ap_pure, ap_bin, ap_nil, ap_cons, ap_star, ap_tup, ap_lst, ap_cb, ap_isi, ap_rgl, ap_if, ap_not, tru_t, tru_f, ap_or, ap_and, ap_toB, ap_bNot, ap_bAnd, ap_bOr, ap_bCmp, boolO_some', ap_iE, ap_iR1, ap_iR2, ap_iEn, ap_iZip, ap_pN, ap_pS, ap_sl, call_ok, ap_call, callI_ok, ap_callIo, ap_hole, ls0, lsS, ap_bor', borE_int, borE_bool, ap_borT, borT_ok, ap_move, ap_sNil, ap_sPass, ap_seq, ap_asg, ap_asgs, ap_ret, ap_expr, ap_sIf, ap_for, ap_setIx, ap_mut, optE_some, tup0, tup1, tup2, tup3, lst0, lst1, lst2, lst3, aName, aCons, aNil, aTup2, Option.bind_some, Option.map_some, List.set_cons_zero, List.set_cons_succ, List.cons_append, List.nil_append, if_true, if_false, Bool.false_eq_true, if_pos, reduceIte, this, tru_b]) (fun _ _ _ => by simp only [bd_ok, sb_ok, tn_nx, tn_rt, tn_bk, tn_ct, lo_some, slo_some, vr0, vrS, ap_var, ap_const, ap_pure, ap_bin, ap_nil, ap_cons, ap_star, ap_tup, ap_lst, ap_cb, ap_isi, ap_rgl, ap_if, ap_not, tru_t, tru_f, ap_or, ap_and, ap_toB, ap_bNot, ap_bAnd, ap_bOr, ap_bCmp, boolO_some', ap_iE, ap_iR1, ap_iR2, ap_iEn, ap_iZip, ap_pN, ap_pS, ap_sl, call_ok, ap_call, callI_ok, ap_callIo, ap_hole, ls0, lsS, ap_bor', borE_int, borE_bool, ap_borT, borT_ok, ap_move, ap_sNil, ap_sPass, ap_seq, ap_asg, ap_asgs, ap_ret, ap_expr, ap_sIf, ap_for, ap_setIx, ap_mut, optE_some, tup0, tup1, tup2, tup3, lst0, lst1, lst2, lst3, aName, aCons, aNil, aTup2, Option.bind_some, Option.map_some, List.set_cons_zero, List.set_cons_succ, List.cons_append, List.nil_append, if_true, if_false, Bool.false_eq_true, if_pos, reduceIte]) (fun _ _ => rfl)
  have hgd : cLc (iE (cVar 6)) (aName 11) (toB (cCall (pg.sem 39 "_law_sum_right") (cCons (cVar 5) (cCons (cVar 11) (cCons (cVar 4) (cNil)))))) (cVar 11) [11] [some (script ns), some (.list u3.d), some (.int (n : Nat)), some (enc rows), some (enc (least n rows)), some (.int (size : Nat)), some (.list ((EVQ size n).map enc)), o, none, none, none, none, none, none, none, none, none, none, none, none, none, none] = .ok (.list ((good size n (least n rows)).map enc)) [some (script ns), some (.list u3.d), some (.int (n : Nat)), some (enc rows), some (enc (least n rows)), some (.int (size : Nat)), some (.list ((EVQ size n).map enc)), o, none, none, none, none, none, none, none, none, none, none, none, none, none, none] := hgd
  have hsq := p_soundq hn hr hrl enc (d := enc rows) rfl (fun _ => rfl) 35 size hsz
  have hsq2 := p_soundq hn hr hrl (fun r => .list (r.map .int)) (d := .list (rows.map fun r => .list (r.map .int))) rfl (fun _ => rfl) 35 size hsz
  have hli := lists_rows s__law_lists 36 rows hrl (fun r h => by rw [hr r h]; exact Nat.le_trans hn (by decide))
  have hGl : (good size n (least n rows)).length ≤ lineN := Nat.le_trans (List.length_filter_le _ _) hEl
  have hGok : okD (.list ((good size n (least n rows)).map enc)) = true := okD_lst hGl fun p hp => enc_small p (by rw [(EVQ_mem size n p (List.mem_filter.mp hp).1).1]; exact Nat.le_trans hn (by decide))
  have hGd : (PyData.list ((good size n (least n rows)).map enc)).depth ≤ 5 := by
    rw [PyData.depth]
    have := dep_all (good size n (least n rows))
    have e : Enc.dep Quo = 1 := rfl
    omega
  have hsame2 := p_same (.list [.list ((good size n (least n rows)).map enc), .list ((good size n (least n rows)).map enc)]) (okD_two_l hGok hGok) (by
    rw [PyData.depth, PyData.depthAll, PyData.depthAll, PyData.depthAll]
    omega)
  obtain ⟨o1, o2, o3, o4, hfr⟩ := law_friends ns u3 h2 hn hr hrl (size := size) o
  obtain ⟨q, u4, h4, hq, hu4⟩ := take_ok (φ := pg.sem 38) u3 n (n := 100) (Urn.le hu3 (by decide)) ⟨by omega, by omega⟩
  rw [← s__law_take 38] at h4
  have hfl := cLc_map (gi := iE (cVar 3)) (f := aName 18) (e := cBin hAdd (cBin hAdd (cSl (cVar 18) (pNone) (pSome (cVar 7))) (cTup (cCons (cBin hSub (cConst (.int 1)) (cBin hIx (cVar 18) (cVar 7))) (cNil)))) (cSl (cVar 18) (pSome (cBin hAdd (cVar 7) (cConst (.int 1)))) (pNone))) (vs := [18]) (ρ := [some (script ns), some (.list u4.d), some (.int (n : Nat)), some (enc rows), some (enc (least n rows)), some (.int (size : Nat)), some (.list ((EVQ size n).map enc)), some (.int q), some (.list ((good size n (least n rows)).map enc)), o1, none, none, o2, none, none, o3, o4, none, none, none, none, none]) enc (fun r => [some (script ns), some (.list u4.d), some (.int (n : Nat)), some (enc rows), some (enc (least n rows)), some (.int (size : Nat)), some (.list ((EVQ size n).map enc)), some (.int q), some (.list ((good size n (least n rows)).map enc)), o1, none, none, o2, none, none, o3, o4, none, some (enc r), none, none, none]) (fun r => enc (flip q 1 r)) rows
    (by have : drawn (enc rows) = some (rows.map enc) := rfl
        simp only [bd_ok, sb_ok, tn_nx, tn_rt, tn_bk, tn_ct, lo_some, slo_some, vr0, vrS, ap_var, ap_const, ap_pure, ap_bin, ap_nil, ap_cons, ap_star, ap_tup, ap_lst, ap_cb, ap_isi, ap_rgl, ap_if, ap_not, tru_t, tru_f, ap_or, ap_and, ap_toB, ap_bNot, ap_bAnd, ap_bOr, ap_bCmp, boolO_some', ap_iE, ap_iR1, ap_iR2, ap_iEn, ap_iZip, ap_pN, ap_pS, ap_sl, call_ok, ap_call, callI_ok, ap_callIo, ap_hole, ls0, lsS, ap_bor', borE_int, borE_bool, ap_borT, borT_ok, ap_move, ap_sNil, ap_sPass, ap_seq, ap_asg, ap_asgs, ap_ret, ap_expr, ap_sIf, ap_for, ap_setIx, ap_mut, optE_some, tup0, tup1, tup2, tup3, lst0, lst1, lst2, lst3, aName, aCons, aNil, aTup2, Option.bind_some, Option.map_some, List.set_cons_zero, List.set_cons_succ, List.cons_append, List.nil_append, if_true, if_false, Bool.false_eq_true, if_pos, reduceIte, this]) rfl rfl hrl (fun _ _ => rfl) (fun r hr' => flip_run r q 1 (by rw [hr r hr']; exact hq) (by rw [hr r hr']; omega) (i := 18) (j := 7) rfl rfl rfl) (fun _ _ => rfl)
  have hso : hSorted1 [.list (rows.map fun r => enc (flip q 1 r))] = some (.list ((sortT (rows.map (flip q 1))).map enc)) := by
    have := hSorted_enc (α := List Int) (by decide) (rows.map (flip q 1)) (by rw [List.length_map]; exact hrl) (.inr (.inl fun r hr' => by
      obtain ⟨r0, h0, rfl⟩ := List.mem_map.mp hr'
      have hlen : (flip q 1 r0).length = n := by unfold flip; rw [List.length_set]; exact hr r0 h0
      cases e : flip q 1 r0 with
      | nil => rw [e] at hlen; simp at hlen; omega
      | cons x xs => rfl))
    rw [List.map_map] at this
    exact this
  obtain ⟨T, hTd⟩ : ∃ T, T = sortT (rows.map (flip q 1)) := ⟨_, rfl⟩
  have hT : T.Perm (rows.map (flip q 1)) := by rw [hTd]; exact sortT_perm _
  rw [← hTd] at hso
  have hTt : hTuple [.list (T.map enc)] = some (enc T) := rfl
  obtain ⟨o5, o6, htu⟩ := law_turned ns u4 hn (size := size) hT hq hr hrl o1 o2 o3 o4
  obtain ⟨o7, o8, hgo⟩ := law_good ns u4 hn hsz hr hrl (some (.int q)) (some (enc T)) o5 o6 o1 o2 o3 o4
  have hr6 : rg2 [.int 1, .int 7] = some ((QR 6).map .int) := rg2_QR (size := 6) (by decide)
  have hcut : ∀ (qs : List Quo) (k : Int), hSl (.list (qs.map enc)) none (some k) = some (.list ((cutA qs none (some k)).map enc)) := fun qs k => by rw [sl_l, cutD_map]
  refine runG_rt (ρ := [some (script ns), some (.list u4.d), some (.int (n : Nat)), some (enc rows), some (enc (least n rows)), some (.int (size : Nat)), some (.list ((EVQ size n).map enc)), some (.int q), some (.list ((good size n (least n rows)).map enc)), o1, some (enc T), o7, o2, o6, o8, o3, o4, none, none, none, none, none]) rfl ?_
  show b_law (pg.sem 39) [some (script ns), none, none, none, none, none, none, none, none, none, none, none, none, none, none, none, none, none, none, none, none, none] = _
  unfold b_law
  simp only [bd_ok, sb_ok, tn_nx, tn_rt, tn_bk, tn_ct, lo_some, slo_some, vr0, vrS, ap_var, ap_const, ap_pure, ap_bin, ap_nil, ap_cons, ap_star, ap_tup, ap_lst, ap_cb, ap_isi, ap_rgl, ap_if, ap_not, tru_t, tru_f, ap_or, ap_and, ap_toB, ap_bNot, ap_bAnd, ap_bOr, ap_bCmp, boolO_some', ap_iE, ap_iR1, ap_iR2, ap_iEn, ap_iZip, ap_pN, ap_pS, ap_sl, call_ok, ap_call, callI_ok, ap_callIo, ap_hole, ls0, lsS, ap_bor', borE_int, borE_bool, ap_borT, borT_ok, ap_move, ap_sNil, ap_sPass, ap_seq, ap_asg, ap_asgs, ap_ret, ap_expr, ap_sIf, ap_for, ap_setIx, ap_mut, optE_some, tup0, tup1, tup2, tup3, lst0, lst1, lst2, lst3, aName, aCons, aNil, aTup2, Option.bind_some, Option.map_some, List.set_cons_zero, List.set_cons_succ, List.cons_append, List.nil_append, if_true, if_false, Bool.false_eq_true, if_pos, reduceIte, hc, hb, set0, h1, add_ii, hnE, hrw, hle, hls, hsame, tru_b, Bool.not_true, h3, hsE, rg1_nat (Nat.le_trans hn (show 13 ≤ 1000000 by decide)), hev]
  simp only [bd_ok, sb_ok, tn_nx, tn_rt, tn_bk, tn_ct, lo_some, slo_some, vr0, vrS, ap_var, ap_const, ap_pure, ap_bin, ap_nil, ap_cons, ap_star, ap_tup, ap_lst, ap_cb, ap_isi, ap_rgl, ap_if, ap_not, tru_t, tru_f, ap_or, ap_and, ap_toB, ap_bNot, ap_bAnd, ap_bOr, ap_bCmp, boolO_some', ap_iE, ap_iR1, ap_iR2, ap_iEn, ap_iZip, ap_pN, ap_pS, ap_sl, call_ok, ap_call, callI_ok, ap_callIo, ap_hole, ls0, lsS, ap_bor', borE_int, borE_bool, ap_borT, borT_ok, ap_move, ap_sNil, ap_sPass, ap_seq, ap_asg, ap_asgs, ap_ret, ap_expr, ap_sIf, ap_for, ap_setIx, ap_mut, optE_some, tup0, tup1, tup2, tup3, lst0, lst1, lst2, lst3, aName, aCons, aNil, aTup2, Option.bind_some, Option.map_some, List.set_cons_zero, List.set_cons_succ, List.cons_append, List.nil_append, if_true, if_false, Bool.false_eq_true, if_pos, reduceIte, hgd, hsq, hsq2, hli, hsame2, tru_b, Bool.not_true, hr6, hfr]
  simp only [bd_ok, sb_ok, tn_nx, tn_rt, tn_bk, tn_ct, lo_some, slo_some, vr0, vrS, ap_var, ap_const, ap_pure, ap_bin, ap_nil, ap_cons, ap_star, ap_tup, ap_lst, ap_cb, ap_isi, ap_rgl, ap_if, ap_not, tru_t, tru_f, ap_or, ap_and, ap_toB, ap_bNot, ap_bAnd, ap_bOr, ap_bCmp, boolO_some', ap_iE, ap_iR1, ap_iR2, ap_iEn, ap_iZip, ap_pN, ap_pS, ap_sl, call_ok, ap_call, callI_ok, ap_callIo, ap_hole, ls0, lsS, ap_bor', borE_int, borE_bool, ap_borT, borT_ok, ap_move, ap_sNil, ap_sPass, ap_seq, ap_asg, ap_asgs, ap_ret, ap_expr, ap_sIf, ap_for, ap_setIx, ap_mut, optE_some, tup0, tup1, tup2, tup3, lst0, lst1, lst2, lst3, aName, aCons, aNil, aTup2, Option.bind_some, Option.map_some, List.set_cons_zero, List.set_cons_succ, List.cons_append, List.nil_append, if_true, if_false, Bool.false_eq_true, if_pos, reduceIte, set0, h4, hfl, hso, hTt, intOf, hcut, drawn_l, htu, hgo]
end L2.PV
open PySem PySem.W PySem.Calls PyProof.Rows
theorem PySem.Challenge.cw_judgedrows_k56_main_all_quotas_that_do_holds : PySem.Challenge.rw_judgedrows_k56_main_all_quotas_that_do.Holds := by
  w_on; o_law
  refine HandSHeadRun.head_any (r := L2.PV.RW) (q := view L2.PV.RW.prog [L2.PV.lawAt]) (H := L2.PV.hk) (ob := L2.PV.obT) (M := 1500) (loose := L2.PV.others) (d := HandSHeadRun.topDef L2.PV.RW.prog L2.PV.lawAt) (kwd := []) L2.PV.obT_eq
    (by kernel_rfl) (fun s => by kernel_rfl) L2.PV.top_run (by kernel_rfl) (by kernel_rfl) (by kernel_rfl) (by rfl) (by first | assumption | decide +kernel) (by decide +kernel) ⟨rfl, rfl, rfl, rfl, rfl, by decide +kernel⟩ ?hw ?hc
  case hw => w_witness2
  case hc =>
    refine L2.walk_ofE (l := PySem.Challenge.rw_judgedrows_k56_main_all_quotas_that_do) (n := 63) (k := 40) (x := "script") (CX := L2.CX0) rfl (by decide) (by kernel_rfl) ⟨rfl, by decide, by decide⟩ ?F (fun _ _ _ _ z => z)
    intro w mg fa h Y G hmg0
    obtain ⟨K, KX, c, e⟩ := Y
    have hmg : mg L2.PV.d_law.x = some (.ref fa) := by
      have e : (HandSHeadRun.topDef L2.PV.RW.prog L2.PV.lawAt).name = L2.PV.d_law.x := by kernel_rfl
      rw [← e]
      exact hmg0
    obtain ⟨fd, hb, hF⟩ := L2.PV.pg_facts (P := (PySem.Challenge.rw_judgedrows_k56_main_all_quotas_that_do).prog) (w := w) (d := L2.PV.d_law) L2.PV.law_mem rfl KX G hmg c e L2.PV.pg_b L2.PV.pg_wf L2.PV.pg_nd 40
    exact ⟨K, fd, (fun vs H Q _ => L2.PV.spF K (L2.PV.Gof L2.PV.pg K) L2.PV.exN L2.PV.d_law.sg (L2.PV.pg.sem 40 L2.PV.d_law.x) vs H Q fun _ _ _ => False), KX, hb, fun H a ns hl ho hS => L2.PV.law_sp rfl rfl rfl L2.PV.law_true H a ns hl ho hS, hF⟩
