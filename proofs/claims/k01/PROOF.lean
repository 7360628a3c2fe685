import PyProof.Rows.All
import Wide.All
import OpenK.AllK
import Wide.FinOn
import HandS.ForMost
import HandS.ForExc
import HandS.Slots
import HandS.SlotsOwn
import HandS.Zip
import HandS.TupAny
import HandS.TupMul
import HandS.TupLe
import HandS.IsInst
import HandS.Wide
import HandS.Flow
import HandS.Deep
import HandS.Star
import HandS.ClsMeth
import KE.KOpsOwn
import KE.KEqDeep
import PySem.Challenge.RW_leastreads_k01_sums_calculated
set_option Elab.async false
set_option linter.all false
set_option maxRecDepth 100000
set_option maxHeartbeats 4000000
/-! DL: a calculus over plain data, above the hand layer. -/
namespace DL
open PySem L2

/-! ### data -/
inductive D where
  | non | bl (b : Bool) | int (i : Int) | str (s : Str)
  | lst (xs : List D) | tup (xs : List D) | loc (n : Nat) | obj (c : Nat) (xs : List D) | cls (c : Nat)

inductive Cell where
  | lst (xs : List D)
  | ins (c : Nat) (xs : List (Option D))

abbrev Store := List (Option Cell)
abbrev Lam := List (Addr × Addr)
abbrev DEnv := List (Option D)

inductive Res (α : Type) where
  | ok (a : α) (m : Store)
  | exn (c : Nat) (fs : List D) (m : Store)
  | bad

def M (α : Type) : Type := Store → Res α
def M.pure {α : Type} (a : α) : M α := fun m => .ok a m
def M.bind {α β : Type} (x : M α) (f : α → M β) : M β := fun m =>
  match x m with
  | .ok a m' => f a m'
  | .exn c fs m' => .exn c fs m'
  | .bad => .bad
def M.bad {α : Type} : M α := fun _ => .bad
def M.exn {α : Type} (c : Nat) (fs : List D) : M α := fun m => .exn c fs m
instance : Monad M where
  pure := M.pure
  bind := M.bind

/-- the law's constants: where each class stands, the fields of each error class -/
structure Kx where
  cl : Nat → Addr
  xf : Nat → List Str

/-! ### what a value stands for -/
mutual
inductive Rp (k : Kx) (K : PySem.W.Frag) (G : Hp) (L : Lam) : V → D → Prop
  | non : Rp k K G L .non .non
  | bl (b : Bool) : Rp k K G L (.bl b) (.bl b)
  | int (i : Int) : Rp k K G L (.int i) (.int i)
  | str (x : Str) : Rp k K G L (.str x) (.str x)
  | lst {a : Addr} {xs : List V} {ds : List D} : SqL K G a xs → RpA k K G L xs ds → Rp k K G L (.ref a) (.lst ds)
  | tup {a : Addr} {xs : List V} {ds : List D} : SqT K G a xs → RpA k K G L xs ds → Rp k K G L (.ref a) (.tup ds)
  | loc {n : Nat} {a b : Addr} : L[n]? = some (a, b) → Rp k K G L (.ref a) (.loc n)
  | cls (c : Nat) : Rp k K G L (.ref (k.cl c)) (.cls c)
  | obj {c : Nat} {a dx : Addr} {vs : List V} {ds : List D} : SlX.Slt G a (k.cl c) dx (vs.map some) → RpA k K G L vs ds → Rp k K G L (.ref a) (.obj c ds)
inductive RpA (k : Kx) (K : PySem.W.Frag) (G : Hp) (L : Lam) : List V → List D → Prop
  | nil : RpA k K G L [] []
  | cons {v : V} {vs : List V} {d : D} {ds : List D} : Rp k K G L v d → RpA k K G L vs ds → RpA k K G L (v :: vs) (d :: ds)
end

section
variable {k : Kx} {K : PySem.W.Frag} {G G' : Hp} {L L' : Lam}
theorem sqT_mono {H H' : Hp} {a : Addr} {xs : List V} (e : Same H H') (h : SqT K H a xs) : SqT K H' a xs := by
  rcases h with (h | ⟨o, h⟩) | h
  · exact .inl (.inl (e _ _ h))
  · exact .inl (.inr ⟨o, e _ _ h⟩)
  · exact .inr h
theorem slt_mono {H H' : Hp} {a C dx : Addr} {vs : List (Option V)} (e : Same H H') (h : SlX.Slt H a C dx vs) : SlX.Slt H' a C dx vs := by
  rcases h with ⟨h1, h2⟩ | ⟨h1, h2⟩
  · exact .inl ⟨e _ _ h1, h2⟩
  · exact .inr ⟨e _ _ h1, e _ _ h2⟩
theorem pre_get {α : Type} {l l' : List α} {n : Nat} {x : α} (p : l <+: l') (h : l[n]? = some x) : l'[n]? = some x := by
  obtain ⟨t, rfl⟩ := p
  rw [List.getElem?_append_left (List.getElem?_eq_some_iff.mp h).1]
  exact h
mutual
theorem Rp.mono (e : Same G G') (l : L <+: L') : ∀ (d : D) (v : V), Rp k K G L v d → Rp k K G' L' v d
  | .non, _, h => by cases h; exact .non
  | .bl b, _, h => by cases h; exact .bl b
  | .int i, _, h => by cases h; exact .int i
  | .str i, _, h => by cases h; exact .str i
  | .lst ds, _, h => by
    cases h with
    | lst hs ha => exact .lst (e.seq hs) (RpA.mono e l ds _ ha)
  | .tup ds, _, h => by
    cases h with
    | tup hs ha => exact .tup (sqT_mono e hs) (RpA.mono e l ds _ ha)
  | .loc n, _, h => by
    cases h with
    | loc hn => exact .loc (pre_get l hn)
  | .obj c ds, _, h => by
    cases h with
    | obj hs ha => exact .obj (slt_mono e hs) (RpA.mono e l ds _ ha)
  | .cls c, _, h => by cases h; exact .cls c
theorem RpA.mono (e : Same G G') (l : L <+: L') : ∀ (ds : List D) (vs : List V), RpA k K G L vs ds → RpA k K G' L' vs ds
  | [], _, h => by cases h; exact .nil
  | d :: ds, _, h => by
    cases h with
    | cons h1 h2 => exact .cons (Rp.mono e l d _ h1) (RpA.mono e l ds _ h2)
end
theorem RpA.len : ∀ {vs : List V} {ds : List D}, RpA k K G L vs ds → vs.length = ds.length
  | [], _, h => by cases h; rfl
  | v :: vs, _, h => by
    cases h with
    | cons _ h2 => simp [h2.len]
theorem RpA.get : ∀ {vs : List V} {ds : List D} {i : Nat} {d : D}, RpA k K G L vs ds → ds[i]? = some d → ∃ v, vs[i]? = some v ∧ Rp k K G L v d
  | _, [], _, _, h, e => by simp at e
  | _, d :: ds, 0, _, h, e => by
    cases h with
    | cons h1 _ => simp at e; subst e; exact ⟨_, rfl, h1⟩
  | _, d :: ds, i + 1, _, h, e => by
    cases h with
    | cons _ h2 =>
      obtain ⟨v, e1, e2⟩ := RpA.get (i := i) h2 (by simpa using e)
      exact ⟨v, by simpa using e1, e2⟩
theorem RpA.get2 : ∀ {vs : List V} {ds : List D} {i : Nat} {v : V}, RpA k K G L vs ds → vs[i]? = some v → ∃ d, ds[i]? = some d ∧ Rp k K G L v d
  | [], _, _, _, h, e => by simp at e
  | v :: vs, _, 0, _, h, e => by
    cases h with
    | cons h1 _ => simp at e; subst e; exact ⟨_, rfl, h1⟩
  | v :: vs, _, i + 1, _, h, e => by
    cases h with
    | cons _ h2 =>
      obtain ⟨d, e1, e2⟩ := RpA.get2 (i := i) h2 (by simpa using e)
      exact ⟨d, by simpa using e1, e2⟩
theorem RpA.append : ∀ {vs ws : List V} {ds es : List D}, RpA k K G L vs ds → RpA k K G L ws es → RpA k K G L (vs ++ ws) (ds ++ es)
  | [], _, _, _, h, h' => by cases h; exact h'
  | _ :: _, _, _, _, h, h' => by
    cases h with
    | cons h1 h2 => exact .cons h1 (h2.append h')
theorem RpA.take : ∀ (n : Nat) {vs : List V} {ds : List D}, RpA k K G L vs ds → RpA k K G L (vs.take n) (ds.take n)
  | 0, _, _, _ => .nil
  | n + 1, [], _, h => by cases h; exact .nil
  | n + 1, _ :: _, _, h => by
    cases h with
    | cons h1 h2 => exact .cons h1 (h2.take n)
theorem RpA.drop : ∀ (n : Nat) {vs : List V} {ds : List D}, RpA k K G L vs ds → RpA k K G L (vs.drop n) (ds.drop n)
  | 0, _, _, h => h
  | n + 1, [], _, h => by cases h; exact .nil
  | n + 1, _ :: _, _, h => by
    cases h with
    | cons h1 h2 => exact h2.drop n
theorem RpA.set : ∀ (n : Nat) {vs : List V} {ds : List D} {v : V} {d : D}, RpA k K G L vs ds → Rp k K G L v d → RpA k K G L (vs.set n v) (ds.set n d)
  | _, [], _, _, _, h, _ => by cases h; exact .nil
  | 0, _ :: _, _, _, _, h, hv => by
    cases h with
    | cons h1 h2 => exact .cons hv h2
  | n + 1, _ :: _, _, _, _, h, hv => by
    cases h with
    | cons h1 h2 => exact .cons h1 (h2.set n hv)
end

/-! ### the world -/
def RpO (k : Kx) (K : PySem.W.Frag) (G : Hp) (L : Lam) (vs : List (Option V)) (ss : List (Option D)) : Prop :=
  vs.length = ss.length ∧ ∀ (i : Nat) (d : D), ss[i]? = some (some d) → ∃ v, vs[i]? = some (some v) ∧ Rp k K G L v d
def CellR (k : Kx) (K : PySem.W.Frag) (G H : Hp) (L : Lam) (a b : Addr) : Cell → Prop
  | .lst ds => b = a ∧ ∃ vs, H a = some (.lst vs) ∧ RpA k K G L vs ds
  | .ins c ss => ∃ vs, SlX.Slt H a (k.cl c) b vs ∧ RpO k K G L vs ss ∧ (∃ o, H b = some o) ∧ a ≠ b
def Live (m : Store) (n : Nat) : Prop := ∃ c, m[n]? = some (some c)
structure Wd (k : Kx) (K : PySem.W.Frag) (G H : Hp) (L : Lam) (m : Store) : Prop where
  ext : Same G H
  len : L.length = m.length
  tk : ∀ p ∈ L, (∃ o, H p.1 = some o) ∧ ∃ o, H p.2 = some o
  cell : ∀ (n : Nat) (c : Cell), m[n]? = some (some c) → ∃ a b, L[n]? = some (a, b) ∧ G a = none ∧ G b = none ∧ CellR k K G H L a b c
  apart : ∀ (i j : Nat) (a b a' b' : Addr), Live m i → Live m j → i ≠ j → L[i]? = some (a, b) → L[j]? = some (a', b') → a ≠ a' ∧ a ≠ b' ∧ b ≠ a' ∧ b ≠ b'

/-- an error's own dict, by its fields -/
def XR (k : Kx) (K : PySem.W.Frag) (G : Hp) (L : Lam) (c : Nat) (fs : List D) (d : Addr) : Prop :=
  ∃ gs : List V, gs.length = (k.xf c).length ∧ G d = some (.xd ((k.xf c).zip gs)) ∧ RpA k K G L gs fs

/-- a step of the world: data grow, locations are added, all else that stands stays and stays out of the data -/
structure Stp (G H : Hp) (L : Lam) (G' H' : Hp) (L' : Lam) : Prop where
  g : Same G G'
  l : L <+: L'
  tr : ∀ a, H' a = none → H a = none
  keep : ∀ a o, H a = some o → (∀ p ∈ L, a ≠ p.1 ∧ a ≠ p.2) → H' a = some o ∧ (G a = none → G' a = none)
  nl : ∀ p ∈ L', p ∈ L ∨ (H p.1 = none ∧ H p.2 = none)
theorem Stp.refl (G H : Hp) (L : Lam) : Stp G H L G H L := ⟨Same.refl G, List.prefix_rfl, fun _ h => h, fun a o h _ => ⟨h, id⟩, fun p h => .inl h⟩
theorem Stp.trans {G H G1 H1 G2 H2 : Hp} {L L1 L2 : Lam} (a : Stp G H L G1 H1 L1) (b : Stp G1 H1 L1 G2 H2 L2) : Stp G H L G2 H2 L2 where
  g := a.g.trans b.g
  l := a.l.trans b.l
  tr := fun x h => a.tr x (b.tr x h)
  keep := fun x o h n => by
    obtain ⟨h1, g1⟩ := a.keep x o h n
    obtain ⟨h2, g2⟩ := b.keep x o h1 fun p hp => by
      rcases a.nl p hp with q | ⟨q1, q2⟩
      · exact n p q
      · exact ⟨ne_of_none h q1, ne_of_none h q2⟩
    exact ⟨h2, fun q => g2 (g1 q)⟩
  nl := fun p hp => by
    rcases b.nl p hp with q | ⟨q1, q2⟩
    · exact a.nl p q
    · exact .inr ⟨a.tr _ q1, a.tr _ q2⟩

def Good {α : Type} (k : Kx) (K : PySem.W.Frag) (E : XK) (G H : Hp) (L : Lam) (r : Res α) (Q : α → Store → Hp → Hp → Lam → Prop) : Prop :=
  match r with
  | .ok a m => ∀ G' H' L', Stp G H L G' H' L' → Wd k K G' H' L' m → Q a m G' H' L'
  | .exn c fs m => ∀ G' H' L' d, Stp G H L G' H' L' → Wd k K G' H' L' m → XR k K G' L' c fs d → E (.ref (k.cl c)) (some d) H'
  | .bad => False

section
variable {k : Kx} {K : PySem.W.Frag} {E : XK} {G H : Hp} {L : Lam} {α β : Type}
theorem pre_refl (l : List α) : l <+: l := List.prefix_rfl
theorem Good.mono {r : Res α} {Q Q' : α → Store → Hp → Hp → Lam → Prop} (h : Good k K E G H L r Q) (q : ∀ a m G' H' L', Stp G H L G' H' L' → Wd k K G' H' L' m → Q a m G' H' L' → Q' a m G' H' L') : Good k K E G H L r Q' := by
  cases r with
  | ok a m => exact fun G' H' L' e w => q a m G' H' L' e w (h G' H' L' e w)
  | exn c fs m => exact h
  | bad => exact h
theorem Good.up {G0 H0 : Hp} {L0 : Lam} {r : Res α} {Q : α → Store → Hp → Hp → Lam → Prop} (h : Good k K E G0 H0 L0 r Q) (e : Stp G0 H0 L0 G H L) : Good k K E G H L r Q := by
  cases r with
  | ok a m => exact fun G' H' L' e' w => h G' H' L' (e.trans e') w
  | exn c fs m => exact fun G' H' L' d e' w x => h G' H' L' d (e.trans e') w x
  | bad => exact h
theorem Good.bind {x : M α} {f : α → M β} {m : Store} {Q : β → Store → Hp → Hp → Lam → Prop} (h : Good k K E G H L ((x >>= f) m) Q) :
    Good k K E G H L (x m) (fun a m' G' H' L' => Good k K E G' H' L' (f a m') Q) := by
  have h' : Good k K E G H L (M.bind x f m) Q := h
  unfold M.bind at h'
  cases e : x m with
  | ok a m' =>
    rw [e] at h'
    exact fun G' H' L' e1 w => Good.up h' e1
  | exn c fs m' =>
    rw [e] at h'
    exact h'
  | bad =>
    rw [e] at h'
    exact h'
theorem Good.ret {a : α} {m : Store} {Q : α → Store → Hp → Hp → Lam → Prop} (h : Good k K E G H L ((pure a : M α) m) Q) (w : Wd k K G H L m) : Q a m G H L :=
  h G H L (Stp.refl G H L) w
theorem Good.okE {a : α} {m : Store} {Q : α → Store → Hp → Hp → Lam → Prop} (h : Good k K E G H L (.ok a m) Q) (w : Wd k K G H L m) : Q a m G H L :=
  h G H L (Stp.refl G H L) w
end

/-! ### environments -/
def Sg (k : Kx) (K : PySem.W.Frag) (G : Hp) (L : Lam) (s : L2.St) (e : DEnv) : Prop :=
  s.length = e.length ∧ ∀ (i : Nat) (d : D), e[i]? = some (some d) → ∃ v, s[i]? = some (some v) ∧ Rp k K G L v d
section
variable {k : Kx} {K : PySem.W.Frag} {G G' : Hp} {L L' : Lam} {s : L2.St} {e : DEnv}
theorem Sg.mono (h : Sg k K G L s e) (g : Same G G') (l : L <+: L') : Sg k K G' L' s e :=
  ⟨h.1, fun i d q => let ⟨v, a, b⟩ := h.2 i d q; ⟨v, a, Rp.mono g l _ _ b⟩⟩
theorem Sg.set (h : Sg k K G L s e) (i : Nat) {v : V} {d : D} (r : Rp k K G L v d) : Sg k K G L (s.set i (some v)) (e.set i (some d)) := by
  refine ⟨by rw [List.length_set, List.length_set]; exact h.1, fun j d' q => ?_⟩
  by_cases hj : i = j
  · subst hj
    by_cases hi : i < e.length
    · rw [List.getElem?_set_self hi] at q
      cases q
      exact ⟨v, by rw [List.getElem?_set_self (by rw [h.1]; exact hi)], r⟩
    · rw [List.getElem?_eq_none (by simpa using hi)] at q
      cases q
  · rw [List.getElem?_set_ne hj] at q
    obtain ⟨v', a, b⟩ := h.2 j d' q
    exact ⟨v', by rw [List.getElem?_set_ne hj]; exact a, b⟩
end

/-! ### outcomes of statements -/
inductive Out where
  | nx (e : DEnv) | rt (d : D) | bk (e : DEnv) | ct (e : DEnv)

section
variable (k : Kx) (K : PySem.W.Frag) (E : XK)
def dE (m : DEnv → M D) : TE := fun s H Q => ∃ e G L μ, Sg k K G L s e ∧ Wd k K G H L μ ∧ Good k K E G H L (m e μ) fun d _ G' H' L' => ∀ v, Rp k K G' L' v d → Q v H'
def dT (m : DEnv → M Bool) : TT := fun s H Q => ∃ e G L μ, Sg k K G L s e ∧ Wd k K G H L μ ∧ Good k K E G H L (m e μ) fun b _ _ H' _ => Q b H'
def dA (m : DEnv → M (List D)) : TA := fun s H Q => ∃ e G L μ, Sg k K G L s e ∧ Wd k K G H L μ ∧ Good k K E G H L (m e μ) fun ds _ G' H' L' => ∀ vs, RpA k K G' L' vs ds → Q vs H'
def OutOk (Ds : Ends) (o : Out) (G H : Hp) (L : Lam) : Prop :=
  match o with
  | .nx e => ∀ s, Sg k K G L s e → Ds.nx s H
  | .rt d => ∀ v, Rp k K G L v d → Ds.rt v H
  | .bk e => ∀ s, Sg k K G L s e → Ds.bk s H
  | .ct e => ∀ s, Sg k K G L s e → Ds.ct s H
def dS (m : DEnv → M Out) : TS := fun Ds s H => ∃ e G L μ, Sg k K G L s e ∧ Wd k K G H L μ ∧ Good k K E G H L (m e μ) fun o _ G' H' L' => OutOk k K Ds o G' H' L'
/-- a target: d is handed in; ts: the slots that it may store to -/
def dG (ts : List Nat) (g : D → DEnv → M DEnv) : TG := fun v s H Q => ∃ d e G L μ, Sg k K G L s e ∧ Rp k K G L v d ∧ Wd k K G H L μ ∧ Good k K E G H L (g d e μ) fun e' _ G' H' L' => ∀ s', Sg k K G' L' s' e' → (s'.length = s.length ∧ ∀ i, i ∉ ts → s'[i]? = s[i]?) → Q s' H'
end

abbrev JE (k : Kx) (X : Cx) (E : XK) (e : Expr) (m : DEnv → M D) : Prop := PE X e (dE k X.K E m)
abbrev JT (k : Kx) (X : Cx) (E : XK) (e : Expr) (m : DEnv → M Bool) : Prop := PT X e (dT k X.K E m)
abbrev JW (k : Kx) (X : Cx) (E : XK) (e : Expr) (m : DEnv → M Bool) : Prop := PW X e (dT k X.K E m)
abbrev JA (k : Kx) (X : Cx) (E : XK) (es : List Expr) (m : DEnv → M (List D)) : Prop := PA X es (dA k X.K E m)
abbrev JS (k : Kx) (X : Cx) (E : XK) (st : Stmt) (m : DEnv → M Out) : Prop := PS X st (dS k X.K E m)
abbrev JB (k : Kx) (X : Cx) (E : XK) (st : List Stmt) (m : DEnv → M Out) : Prop := PSs X st (dS k X.K E m)
abbrev JG (k : Kx) (X : Cx) (E : XK) (e : Expr) (ts : List Nat) (g : D → DEnv → M DEnv) : Prop := PG X e (dG k X.K E ts g)

section
variable {X : Cx}
theorem PE.imp {e : Expr} {t t' : TE} (h : PE X e t) (q : ∀ s H Q, t' s H Q → t s H Q) : PE X e t' := ⟨fun pins s σ H Q I hw => h.run pins s σ H Q I (q _ _ _ hw)⟩
theorem PT.imp {e : Expr} {t t' : TT} (h : PT X e t) (q : ∀ s H Q, t' s H Q → t s H Q) : PT X e t' := ⟨fun pins s σ H Q I hw => h.run pins s σ H Q I (q _ _ _ hw)⟩
theorem PW.imp {e : Expr} {t t' : TT} (h : PW X e t) (q : ∀ s H Q, t' s H Q → t s H Q) : PW X e t' := ⟨fun wh pins s σ H Q I hw => h.run wh pins s σ H Q I (q _ _ _ hw)⟩
theorem PA.imp {e : List Expr} {t t' : TA} (h : PA X e t) (q : ∀ s H Q, t' s H Q → t s H Q) : PA X e t' := ⟨fun pos pins s σ H Q I hw => h.run pos pins s σ H Q I (q _ _ _ hw)⟩
theorem PS.imp {e : Stmt} {t t' : TS} (h : PS X e t) (q : ∀ D s H, t' D s H → t D s H) : PS X e t' := ⟨fun pins s σ H D I hw => h.run pins s σ H D I (q _ _ _ hw)⟩
theorem PSs.imp {e : List Stmt} {t t' : TS} (h : PSs X e t) (q : ∀ D s H, t' D s H → t D s H) : PSs X e t' := ⟨fun pins s σ H D I hw => h.run pins s σ H D I (q _ _ _ hw)⟩
theorem PG.imp {e : Expr} {t t' : TG} (h : PG X e t) (q : ∀ v s H Q, t' v s H Q → t v s H Q) : PG X e t' := ⟨fun pins s σ H x u Q I r hw => h.run pins s σ H x u Q I r (q _ _ _ _ hw)⟩
end
end DL

namespace DL
open PySem L2

/-! ### changes of the world -/
section
variable {k : Kx} {K : PySem.W.Frag} {G H : Hp} {L : Lam} {m : Store}
theorem Same.new {H : Hp} {p : Addr} {o : HO} (h : H p = none) : Same H (upd H p o) := fun b u e => by
  rw [upd_ne (ne_of_none e h)]
  exact e
theorem some_upd {H : Hp} {a x : Addr} {o : HO} (h : ∃ u, H x = some u) : ∃ u, upd H a o x = some u := by
  by_cases e : x = a
  · subst e
    exact ⟨o, upd_same⟩
  · rw [upd_ne e]
    exact h
theorem Wd.gnone (w : Wd k K G H L m) {p : Addr} (h : H p = none) : G p = none := by
  cases e : G p with
  | none => rfl
  | some o =>
    rw [w.ext p o e] at h
    cases h
theorem CellR.addr {a b : Addr} {c : Cell} (r : CellR k K G H L a b c) : (∃ o, H a = some o) ∧ ∃ o, H b = some o := by
  cases c with
  | lst ds =>
    obtain ⟨rfl, vs, h, _⟩ := r
    exact ⟨⟨_, h⟩, ⟨_, h⟩⟩
  | ins c ss =>
    obtain ⟨vs, h, _, hb, _⟩ := r
    refine ⟨?_, hb⟩
    rcases h with ⟨h1, _⟩ | ⟨h1, _⟩
    · exact ⟨_, h1⟩
    · exact ⟨_, h1⟩
/-- H and G may grow where the cell does not look -/
theorem CellR.step {G' H' : Hp} {L' : Lam} {a b : Addr} {c : Cell} (r : CellR k K G H L a b c) (g : Same G G') (l : L <+: L') (ha : H' a = H a) (hb : H' b = H b) : CellR k K G' H' L' a b c := by
  cases c with
  | lst ds =>
    obtain ⟨rfl, vs, h, q⟩ := r
    exact ⟨rfl, vs, by rw [ha]; exact h, RpA.mono g l _ _ q⟩
  | ins c ss =>
    obtain ⟨vs, h, q, ⟨o, ho⟩, ne⟩ := r
    refine ⟨vs, ?_, ⟨q.1, fun i d e => let ⟨v, x, y⟩ := q.2 i d e; ⟨v, x, Rp.mono g l _ _ y⟩⟩, ⟨o, by rw [hb]; exact ho⟩, ne⟩
    rcases h with ⟨h1, h2⟩ | ⟨h1, h2⟩
    · exact .inl ⟨by rw [ha]; exact h1, h2⟩
    · exact .inr ⟨by rw [ha]; exact h1, by rw [hb]; exact h2⟩
/-- a new object, into the data -/
theorem Wd.new (w : Wd k K G H L m) {p : Addr} {o : HO} (h : H p = none) : Wd k K (upd G p o) (upd H p o) L m where
  ext := fun b u e => by
    by_cases hb : b = p
    · subst hb
      rw [upd_same] at e ⊢
      exact e
    · rw [upd_ne hb] at e ⊢
      exact w.ext b u e
  len := w.len
  tk := fun q hq => ⟨some_upd (w.tk q hq).1, some_upd (w.tk q hq).2⟩
  cell := fun n c e => by
    obtain ⟨a, b, hl, ga, gb, r⟩ := w.cell n c e
    obtain ⟨⟨oa, ha⟩, ⟨ob, hb⟩⟩ := r.addr
    have na := ne_of_none ha h
    have nb := ne_of_none hb h
    exact ⟨a, b, hl, by rw [upd_ne na]; exact ga, by rw [upd_ne nb]; exact gb, r.step (Same.new (w.gnone h)) (pre_refl L) (upd_ne na) (upd_ne nb)⟩
  apart := w.apart
/-- a new object, not of the data -/
theorem Wd.junk (w : Wd k K G H L m) {p : Addr} {o : HO} (h : H p = none) : Wd k K G (upd H p o) L m where
  ext := fun b u e => by
    have q := w.ext b u e
    rw [upd_ne (ne_of_none q h)]
    exact q
  len := w.len
  tk := fun q hq => ⟨some_upd (w.tk q hq).1, some_upd (w.tk q hq).2⟩
  cell := fun n c e => by
    obtain ⟨a, b, hl, ga, gb, r⟩ := w.cell n c e
    obtain ⟨⟨oa, ha⟩, ⟨ob, hb⟩⟩ := r.addr
    exact ⟨a, b, hl, ga, gb, r.step (Same.refl G) (pre_refl L) (upd_ne (ne_of_none ha h)) (upd_ne (ne_of_none hb h))⟩
  apart := w.apart
theorem live_app {m : Store} {c : Option Cell} {i : Nat} (h : Live (m ++ [c]) i) : Live m i ∨ i = m.length := by
  obtain ⟨x, hx⟩ := h
  by_cases hi : i < m.length
  · exact .inl ⟨x, by rw [List.getElem?_append_left hi] at hx; exact hx⟩
  · right
    have h1 := (List.getElem?_eq_some_iff.mp hx).1
    simp at h1
    omega
theorem live_lt {m : Store} {i : Nat} (h : Live m i) : i < m.length := by
  obtain ⟨c, e⟩ := h
  exact (List.getElem?_eq_some_iff.mp e).1
/-- a new mutable list -/
theorem Wd.newLoc (w : Wd k K G H L m) {p : Addr} {vs : List V} {ds : List D} (h : H p = none) (r : RpA k K G L vs ds) : Wd k K G (upd H p (.lst vs)) (L ++ [(p, p)]) (m ++ [some (.lst ds)]) where
  ext := (w.junk h).ext
  len := by simp [w.len]
  tk := fun q hq => by
    rcases List.mem_append.mp hq with z | z
    · exact ⟨some_upd (w.tk q z).1, some_upd (w.tk q z).2⟩
    · simp at z
      subst z
      exact ⟨⟨_, upd_same⟩, ⟨_, upd_same⟩⟩
  cell := fun n c e => by
    by_cases hn : n < m.length
    · rw [List.getElem?_append_left hn] at e
      obtain ⟨a, b, hl, ga, gb, r'⟩ := w.cell n c e
      obtain ⟨⟨oa, ha⟩, ⟨ob, hb⟩⟩ := r'.addr
      exact ⟨a, b, pre_get (List.prefix_append _ _) hl, ga, gb, r'.step (Same.refl G) (List.prefix_append _ _) (upd_ne (ne_of_none ha h)) (upd_ne (ne_of_none hb h))⟩
    · have h1 := (List.getElem?_eq_some_iff.mp e).1
      simp at h1
      have e0 : n = m.length := by omega
      subst e0
      simp at e
      subst e
      exact ⟨p, p, by rw [← w.len]; simp, w.gnone h, w.gnone h, rfl, vs, upd_same, RpA.mono (Same.refl G) (List.prefix_append _ _) _ _ r⟩
  apart := fun i j a b a' b' li lj ne ha hb => by
    have old : ∀ {i : Nat} {a b : Addr}, Live m i → (L ++ [(p, p)])[i]? = some (a, b) → a ≠ p ∧ b ≠ p ∧ L[i]? = some (a, b) := fun {i a b} li ha => by
      have hlt : i < L.length := by rw [w.len]; exact live_lt li
      rw [List.getElem?_append_left hlt] at ha
      obtain ⟨c, hc⟩ := li
      obtain ⟨a0, b0, hl, _, _, r'⟩ := w.cell i c hc
      rw [hl] at ha
      cases ha
      obtain ⟨⟨oa, ha⟩, ⟨ob, hb⟩⟩ := r'.addr
      exact ⟨ne_of_none ha h, ne_of_none hb h, hl⟩
    have new : ∀ {a b : Addr}, (L ++ [(p, p)])[m.length]? = some (a, b) → a = p ∧ b = p := fun {a b} ha => by
      rw [← w.len] at ha
      simp at ha
      exact ⟨ha.1.symm, ha.2.symm⟩
    rcases live_app li with li | e1
    · obtain ⟨n1, n2, q1⟩ := old li ha
      rcases live_app lj with lj | e2
      · obtain ⟨n3, n4, q2⟩ := old lj hb
        exact w.apart i j a b a' b' li lj ne q1 q2
      · subst e2
        obtain ⟨rfl, rfl⟩ := new hb
        exact ⟨n1, n1, n2, n2⟩
    · subst e1
      obtain ⟨rfl, rfl⟩ := new ha
      rcases live_app lj with lj | e2
      · obtain ⟨n3, n4, q2⟩ := old lj hb
        exact ⟨n3.symm, n4.symm, n3.symm, n4.symm⟩
      · exact absurd e2.symm ne
theorem live_set {m : Store} {n : Nat} {c c' : Cell} {i : Nat} (hn : m[n]? = some (some c)) (h : Live (m.set n (some c')) i) : Live m i := by
  obtain ⟨x, hx⟩ := h
  by_cases e : n = i
  · subst e
    exact ⟨c, hn⟩
  · rw [List.getElem?_set_ne e] at hx
    exact ⟨x, hx⟩
/-- a mutable list changed -/
theorem Wd.setLoc (w : Wd k K G H L m) {n : Nat} {a b : Addr} {ds' : List D} {vs : List V} {ds : List D} (hn : m[n]? = some (some (.lst ds'))) (hl : L[n]? = some (a, b)) (r : RpA k K G L vs ds) : Wd k K G (upd H a (.lst vs)) L (m.set n (some (.lst ds))) := by
  obtain ⟨a0, b0, hl0, ga, gb, r0⟩ := w.cell n _ hn
  rw [hl] at hl0
  cases hl0
  obtain ⟨rfl, vs0, h0, _⟩ := id r0
  refine ⟨fun c u e => ?_, by rw [List.length_set]; exact w.len, fun q hq => ⟨some_upd (w.tk q hq).1, some_upd (w.tk q hq).2⟩, fun i c e => ?_, fun i j a b a' b' li lj => w.apart i j a b a' b' (live_set hn li) (live_set hn lj)⟩
  · have : c ≠ b := fun z => by
      rw [z, ga] at e
      cases e
    rw [upd_ne this]
    exact w.ext c u e
  · by_cases hi : n = i
    · subst hi
      rw [List.getElem?_set_self (List.getElem?_eq_some_iff.mp hn).1] at e
      cases e
      exact ⟨b, b, hl, ga, ga, rfl, vs, upd_same, r⟩
    · rw [List.getElem?_set_ne hi] at e
      obtain ⟨a', b', hl', ga', gb', r'⟩ := w.cell i c e
      obtain ⟨n1, n2, n3, n4⟩ := w.apart i n a' b' b b ⟨c, e⟩ ⟨_, hn⟩ (Ne.symm hi) hl' hl
      exact ⟨a', b', hl', ga', gb', r'.step (Same.refl G) (pre_refl L) (upd_ne n1) (upd_ne n3)⟩
theorem Wd.look (w : Wd k K G H L m) {n : Nat} {ds : List D} (hn : m[n]? = some (some (.lst ds))) {v : V} (r : Rp k K G L v (.loc n)) : ∃ a vs, v = .ref a ∧ L[n]? = some (a, a) ∧ G a = none ∧ H a = some (.lst vs) ∧ RpA k K G L vs ds := by
  obtain ⟨a0, b0, hl0, ga, gb, rfl, vs, h, q⟩ := w.cell n _ hn
  cases r with
  | loc hl =>
    rw [hl] at hl0
    cases hl0
    exact ⟨_, vs, rfl, hl, ga, h, q⟩
/-- dead cells: nothing is asked of them -/
theorem live_kill {m : Store} {n i : Nat} (h : Live (m.set n none) i) : Live m i ∧ i ≠ n := by
  obtain ⟨x, hx⟩ := h
  by_cases e : n = i
  · subst e
    by_cases hn : n < m.length
    · rw [List.getElem?_set_self hn] at hx
      cases hx
    · rw [List.getElem?_eq_none (by simpa using hn)] at hx
      cases hx
  · rw [List.getElem?_set_ne e] at hx
    exact ⟨⟨x, hx⟩, Ne.symm e⟩
/-- a mutable list becomes data -/
theorem Wd.freeze (w : Wd k K G H L m) {n : Nat} {a : Addr} {vs : List V} {ds : List D} (hn : m[n]? = some (some (.lst ds))) (hl : L[n]? = some (a, a)) (h : H a = some (.lst vs)) : Wd k K (upd G a (.lst vs)) H L (m.set n none) := by
  obtain ⟨a0, b0, hl0, ga, gb, r0⟩ := w.cell n _ hn
  rw [hl] at hl0
  cases hl0
  refine ⟨fun c u e => ?_, by rw [List.length_set]; exact w.len, w.tk, fun i c e => ?_, fun i j a b a' b' li lj => w.apart i j a b a' b' (live_kill li).1 (live_kill lj).1⟩
  · by_cases hc : c = a
    · subst hc
      rw [upd_same] at e
      cases e
      exact h
    · rw [upd_ne hc] at e
      exact w.ext c u e
  · have hni : n ≠ i := fun z => (live_kill ⟨c, e⟩).2 z.symm
    rw [List.getElem?_set_ne hni] at e
    obtain ⟨a', b', hl', ga', gb', r'⟩ := w.cell i c e
    obtain ⟨n1, n2, n3, n4⟩ := w.apart i n a' b' a a ⟨c, e⟩ ⟨_, hn⟩ (Ne.symm hni) hl' hl
    exact ⟨a', b', hl', by rw [upd_ne n1]; exact ga', by rw [upd_ne n3]; exact gb', r'.step (Same.new ga) (pre_refl L) rfl rfl⟩

/-! ### instances with slots -/
/-- a fresh instance -/
theorem Wd.newIns (w : Wd k K G H L m) {x dx : Addr} {c : Nat} (hx : H x = none) (hd : H dx = none) (ne : dx ≠ x) :
    Wd k K G (upd (upd H dx (.own x)) x (.ins (k.cl c) dx [])) (L ++ [(x, dx)]) (m ++ [some (.ins c [])]) := by
  have w1 : Wd k K G (upd (upd H dx (.own x)) x (.ins (k.cl c) dx [])) L m := (w.junk (o := .own x) hd).junk (p := x) (o := .ins (k.cl c) dx []) (by rw [upd_ne ne.symm]; exact hx)
  have old : ∀ {i : Nat} {a b : Addr}, Live m i → (L ++ [(x, dx)])[i]? = some (a, b) → (a ≠ x ∧ a ≠ dx ∧ b ≠ x ∧ b ≠ dx) ∧ L[i]? = some (a, b) := fun {i a b} li ha => by
    have hlt : i < L.length := by rw [w.len]; exact live_lt li
    rw [List.getElem?_append_left hlt] at ha
    obtain ⟨c, hc⟩ := li
    obtain ⟨a0, b0, hl, _, _, r'⟩ := w.cell i c hc
    rw [hl] at ha
    cases ha
    obtain ⟨⟨oa, ha⟩, ⟨ob, hb⟩⟩ := r'.addr
    exact ⟨⟨ne_of_none ha hx, ne_of_none ha hd, ne_of_none hb hx, ne_of_none hb hd⟩, hl⟩
  have new : ∀ {a b : Addr}, (L ++ [(x, dx)])[m.length]? = some (a, b) → a = x ∧ b = dx := fun {a b} ha => by
    rw [← w.len] at ha
    simp at ha
    exact ⟨ha.1.symm, ha.2.symm⟩
  refine ⟨w1.ext, by simp [w.len], fun q hq => ?_, fun n c' e => ?_, fun i j a b a' b' li lj nij ha hb => ?_⟩
  · rcases List.mem_append.mp hq with z | z
    · exact w1.tk q z
    · simp at z
      subst z
      exact ⟨⟨_, upd_same⟩, ⟨.own x, by rw [upd_ne ne, upd_same]⟩⟩
  · by_cases hn : n < m.length
    · rw [List.getElem?_append_left hn] at e
      obtain ⟨a, b, hl, ga, gb, r'⟩ := w1.cell n c' e
      exact ⟨a, b, pre_get (List.prefix_append _ _) hl, ga, gb, r'.step (Same.refl G) (List.prefix_append _ _) rfl rfl⟩
    · have h1 := (List.getElem?_eq_some_iff.mp e).1
      simp at h1
      have e0 : n = m.length := by omega
      subst e0
      simp at e
      subst e
      exact ⟨x, dx, by rw [← w.len]; simp, w.gnone hx, w.gnone hd, [], .inl ⟨upd_same, rfl⟩, ⟨rfl, fun i d e => by simp at e⟩, ⟨.own x, by rw [upd_ne ne, upd_same]⟩, ne.symm⟩
  · rcases live_app li with li | e1
    · obtain ⟨⟨n1, n2, n3, n4⟩, q1⟩ := old li ha
      rcases live_app lj with lj | e2
      · obtain ⟨_, q2⟩ := old lj hb
        exact w.apart i j a b a' b' li lj nij q1 q2
      · subst e2
        obtain ⟨rfl, rfl⟩ := new hb
        exact ⟨n1, n2, n3, n4⟩
    · subst e1
      obtain ⟨rfl, rfl⟩ := new ha
      rcases live_app lj with lj | e2
      · obtain ⟨⟨n1, n2, n3, n4⟩, q2⟩ := old lj hb
        exact ⟨n1.symm, n3.symm, n2.symm, n4.symm⟩
      · exact absurd e2.symm nij
theorem Wd.lookIns (w : Wd k K G H L m) {n c : Nat} {ss : List (Option D)} (hn : m[n]? = some (some (.ins c ss))) {v : V} (r : Rp k K G L v (.loc n)) :
    ∃ a dx vs, v = .ref a ∧ L[n]? = some (a, dx) ∧ G a = none ∧ G dx = none ∧ SlX.Slt H a (k.cl c) dx vs ∧ RpO k K G L vs ss ∧ dx ≠ a := by
  obtain ⟨a0, b0, hl0, ga, gb, vs, h, q, _, ne⟩ := w.cell n _ hn
  cases r with
  | loc hl =>
    rw [hl] at hl0
    cases hl0
    exact ⟨_, _, vs, rfl, hl, ga, gb, h, q, ne.symm⟩
def putD (i : Nat) (d : D) (ss : List (Option D)) : List (Option D) := (ss ++ List.replicate (i + 1 - ss.length) none).set i (some d)
theorem RpO.put {vs : List (Option V)} {ss : List (Option D)} {v : V} {d : D} (h : RpO k K G L vs ss) (i : Nat) (r : Rp k K G L v d) : RpO k K G L (SlX.putS i v vs) (putD i d ss) := by
  refine ⟨?_, fun j d' e => ?_⟩
  · unfold SlX.putS putD
    simp [h.1]
  · unfold putD at e
    by_cases hj : i = j
    · subst hj
      rw [List.getElem?_set_self (by simp only [List.length_append, List.length_replicate]; omega)] at e
      cases e
      exact ⟨v, SlX.putS_get i v vs, r⟩
    · rw [List.getElem?_set_ne hj] at e
      have e' : ss[j]? = some (some d') := by
        by_cases hl : j < ss.length
        · rw [List.getElem?_append_left hl] at e
          exact e
        · rw [List.getElem?_append_right (by omega), List.getElem?_replicate] at e
          split at e <;> cases e
      obtain ⟨v', a, b⟩ := h.2 j d' e'
      exact ⟨v', (SlX.putS_ne (Ne.symm hj)).mpr a, b⟩
/-- a slot stored -/
theorem Wd.setIns (w : Wd k K G H L m) {n c : Nat} {ss : List (Option D)} {a dx : Addr} {vs : List (Option V)} {v : V} {d : D} (i : Nat) (hn : m[n]? = some (some (.ins c ss))) (hl : L[n]? = some (a, dx)) (q : RpO k K G L vs ss) (ne : dx ≠ a) (r : Rp k K G L v d) :
    Wd k K G (SlX.slH H a (k.cl c) dx (SlX.putS i v vs)) L (m.set n (some (.ins c (putD i d ss)))) := by
  obtain ⟨a0, b0, hl0, ga, gb, r0⟩ := w.cell n _ hn
  rw [hl] at hl0
  cases hl0
  refine ⟨fun x u e => ?_, by rw [List.length_set]; exact w.len, fun q hq => ⟨some_upd (some_upd (w.tk q hq).1), some_upd (some_upd (w.tk q hq).2)⟩, fun j c' e => ?_, fun i j a b a' b' li lj => w.apart i j a b a' b' (live_set hn li) (live_set hn lj)⟩
  · have n1 : x ≠ a := fun z => by
      rw [z, ga] at e
      cases e
    have n2 : x ≠ dx := fun z => by
      rw [z, gb] at e
      cases e
    rw [SlX.slH_ne n1 n2]
    exact w.ext x u e
  · by_cases hj : n = j
    · subst hj
      rw [List.getElem?_set_self (List.getElem?_eq_some_iff.mp hn).1] at e
      cases e
      exact ⟨a, dx, hl, ga, gb, _, SlX.slH_slt ne, q.put i r, ⟨.xd [], by unfold SlX.slH; rw [upd_ne ne, upd_same]⟩, ne.symm⟩
    · rw [List.getElem?_set_ne hj] at e
      obtain ⟨a', b', hl', ga', gb', r'⟩ := w.cell j c' e
      obtain ⟨n1, n2, n3, n4⟩ := w.apart j n a' b' a dx ⟨c', e⟩ ⟨_, hn⟩ (Ne.symm hj) hl' hl
      exact ⟨a', b', hl', ga', gb', r'.step (Same.refl G) (pre_refl L) (SlX.slH_ne n1 n2) (SlX.slH_ne n3 n4)⟩
theorem rpA_of_rpO : ∀ {vs : List (Option V)} {ds : List D}, RpO k K G L vs (ds.map some) → ∃ ws, vs = ws.map some ∧ RpA k K G L ws ds
  | [], [], _ => ⟨[], rfl, .nil⟩
  | _ :: _, [], h => by simp [RpO] at h
  | [], _ :: _, h => by simp [RpO] at h
  | o :: vs, d :: ds, h => by
    obtain ⟨v, e, r⟩ := h.2 0 d (by simp)
    simp at e
    subst e
    obtain ⟨ws, rfl, q⟩ := rpA_of_rpO (vs := vs) (ds := ds) ⟨by simpa using h.1, fun i d' e => by
      obtain ⟨v', a, b⟩ := h.2 (i + 1) d' (by simpa using e)
      exact ⟨v', by simpa using a, b⟩⟩
    exact ⟨v :: ws, rfl, .cons r q⟩
/-- an instance becomes data -/
theorem Wd.freezeIns (w : Wd k K G H L m) {n c : Nat} {ds : List D} {v : V} (hn : m[n]? = some (some (.ins c (ds.map some)))) (r : Rp k K G L v (.loc n)) :
    ∃ G', Stp G H L G' H L ∧ Wd k K G' H L (m.set n none) ∧ Rp k K G' L v (.obj c ds) := by
  obtain ⟨a, dx, vs, rfl, hl, ga, gb, hs, q, ne⟩ := w.lookIns hn r
  obtain ⟨ws, rfl, qa⟩ := rpA_of_rpO q
  -- the objects at a and dx go into the data
  have key : ∃ oa od, H a = some oa ∧ H dx = some od ∧ ∀ G', G' a = some oa → G' dx = some od → SlX.Slt G' a (k.cl c) dx (ws.map some) := by
    obtain ⟨_, _, _, _, _, _, _, _, ⟨od, hd⟩, _⟩ := w.cell n _ hn
    rcases hs with ⟨h1, h2⟩ | ⟨h1, h2⟩
    · obtain ⟨a0, b0, hl0, _, _, _, _, _, ⟨od, hd⟩, _⟩ := w.cell n _ hn
      rw [hl] at hl0
      cases hl0
      exact ⟨_, od, h1, hd, fun G' q1 q2 => .inl ⟨q1, h2⟩⟩
    · exact ⟨_, _, h1, h2, fun G' q1 q2 => .inr ⟨q1, q2⟩⟩
  obtain ⟨oa, od, ha, hd, mk⟩ := key
  refine ⟨upd (upd G dx od) a oa, ?_, ⟨fun x u e => ?_, by rw [List.length_set]; exact w.len, w.tk, fun i c' e => ?_, fun i j a b a' b' li lj => w.apart i j a b a' b' (live_kill li).1 (live_kill lj).1⟩, ?_⟩
  · exact ⟨fun x u e => by rw [upd_ne (ne_of_none e ga), upd_ne (ne_of_none e gb)]; exact e, pre_refl L, fun _ e => e, fun x u e q => ⟨e, fun z => by
      obtain ⟨n1, n2⟩ := q (a, dx) (List.mem_of_getElem? hl)
      rw [upd_ne n1, upd_ne n2]
      exact z⟩, fun p h => .inl h⟩
  · by_cases h1 : x = a
    · subst h1
      rw [upd_same] at e
      cases e
      exact ha
    · rw [upd_ne h1] at e
      by_cases h2 : x = dx
      · subst h2
        rw [upd_same] at e
        cases e
        exact hd
      · rw [upd_ne h2] at e
        exact w.ext x u e
  · have hni : n ≠ i := fun z => (live_kill ⟨c', e⟩).2 z.symm
    rw [List.getElem?_set_ne hni] at e
    obtain ⟨a', b', hl', ga', gb', r'⟩ := w.cell i c' e
    obtain ⟨n1, n2, n3, n4⟩ := w.apart i n a' b' a dx ⟨c', e⟩ ⟨_, hn⟩ (Ne.symm hni) hl' hl
    refine ⟨a', b', hl', by rw [upd_ne n1, upd_ne n2]; exact ga', by rw [upd_ne n3, upd_ne n4]; exact gb', r'.step (fun x u e => ?_) (pre_refl L) rfl rfl⟩
    rw [upd_ne (ne_of_none e ga), upd_ne (ne_of_none e gb)]
    exact e
  · exact .obj (mk _ upd_same (by rw [upd_ne ne, upd_same])) (RpA.mono (fun x u e => by rw [upd_ne (ne_of_none e ga), upd_ne (ne_of_none e gb)]; exact e) (pre_refl L) _ _ qa)
end

/-! ### the steps -/
section
variable {k : Kx} {K : PySem.W.Frag} {G H : Hp} {L : Lam} {m : Store}
theorem Wd.newS (w : Wd k K G H L m) {p : Addr} {o : HO} (h : H p = none) : Stp G H L (upd G p o) (upd H p o) L where
  g := Same.new (w.gnone h)
  l := pre_refl L
  tr := fun a e => by
    by_cases ha : a = p
    · rw [ha]; exact h
    · rw [upd_ne ha] at e; exact e
  keep := fun a u e _ => by
    have ne := ne_of_none e h
    rw [upd_ne ne, upd_ne ne]
    exact ⟨e, id⟩
  nl := fun p h => .inl h
theorem junkS {p : Addr} {o : HO} (h : H p = none) : Stp G H L G (upd H p o) L where
  g := Same.refl G
  l := pre_refl L
  tr := fun a e => by
    by_cases ha : a = p
    · rw [ha]; exact h
    · rw [upd_ne ha] at e; exact e
  keep := fun a u e _ => by
    rw [upd_ne (ne_of_none e h)]
    exact ⟨e, id⟩
  nl := fun p h => .inl h
theorem newLocS {p : Addr} {o : HO} (h : H p = none) : Stp G H L G (upd H p o) (L ++ [(p, p)]) where
  g := Same.refl G
  l := List.prefix_append _ _
  tr := (junkS (G := G) (L := L) (o := o) h).tr
  keep := (junkS (G := G) (L := L) (o := o) h).keep
  nl := fun q hq => by
    rcases List.mem_append.mp hq with z | z
    · exact .inl z
    · simp at z
      subst z
      exact .inr ⟨h, h⟩
theorem setLocS {n : Nat} {a b : Addr} {o o' : HO} (hl : L[n]? = some (a, b)) (h : H a = some o') : Stp G H L G (upd H a o) L where
  g := Same.refl G
  l := pre_refl L
  tr := fun x e => by
    by_cases ha : x = a
    · subst ha
      rw [upd_same] at e
      cases e
    · rw [upd_ne ha] at e; exact e
  keep := fun x u e q => by
    rw [upd_ne (q (a, b) (List.mem_of_getElem? hl)).1]
    exact ⟨e, id⟩
  nl := fun p h => .inl h
theorem freezeS {n : Nat} {a b : Addr} {o : HO} (hl : L[n]? = some (a, b)) (ga : G a = none) : Stp G H L (upd G a o) H L where
  g := Same.new ga
  l := pre_refl L
  tr := fun _ e => e
  keep := fun x u e q => ⟨e, fun z => by
    rw [upd_ne (q (a, b) (List.mem_of_getElem? hl)).1]
    exact z⟩
  nl := fun p h => .inl h
theorem newInsS {x dx : Addr} {o o' : HO} (hx : H x = none) (hd : H dx = none) (ne : dx ≠ x) : Stp G H L G (upd (upd H dx o) x o') (L ++ [(x, dx)]) where
  g := Same.refl G
  l := List.prefix_append _ _
  tr := fun a e => by
    by_cases ha : a = x
    · rw [ha]; exact hx
    · rw [upd_ne ha] at e
      by_cases hb : a = dx
      · rw [hb]; exact hd
      · rw [upd_ne hb] at e; exact e
  keep := fun a u e _ => by
    rw [upd_ne (ne_of_none e hx), upd_ne (ne_of_none e hd)]
    exact ⟨e, id⟩
  nl := fun q hq => by
    rcases List.mem_append.mp hq with z | z
    · exact .inl z
    · simp at z
      subst z
      exact .inr ⟨hx, hd⟩
theorem setInsS {n : Nat} {a dx C : Addr} {vs : List (Option V)} (hl : L[n]? = some (a, dx)) (ha : ∃ o, H a = some o) (hd : ∃ o, H dx = some o) : Stp G H L G (SlX.slH H a C dx vs) L where
  g := Same.refl G
  l := pre_refl L
  tr := fun x e => by
    by_cases h1 : x = a
    · subst h1
      unfold SlX.slH at e
      rw [upd_same] at e
      cases e
    · by_cases h2 : x = dx
      · subst h2
        unfold SlX.slH at e
        rw [upd_ne h1, upd_same] at e
        cases e
      · rw [SlX.slH_ne h1 h2] at e
        exact e
  keep := fun x u e q => by
    obtain ⟨n1, n2⟩ := q (a, dx) (List.mem_of_getElem? hl)
    rw [SlX.slH_ne n1 n2]
    exact ⟨e, id⟩
  nl := fun p h => .inl h
end
end DL

namespace DL
open PySem L2

/-! ### denotations of expressions -/
def getv (i : Nat) (e : DEnv) : M D := match e[i]? with
  | some (some d) => pure d
  | _ => M.bad
def eVar (i : Nat) : DEnv → M D := fun e => getv i e
def eC (d : D) : DEnv → M D := fun _ => pure d
def eOp (g : D → D → M D) (a b : DEnv → M D) : DEnv → M D := fun e => do let x ← a e; let y ← b e; g x y
def eUn (g : D → M D) (a : DEnv → M D) : DEnv → M D := fun e => do let x ← a e; g x
def asB : D → M Bool
  | .bl b => pure b
  | _ => M.bad
def eIf (t : DEnv → M Bool) (a b : DEnv → M D) : DEnv → M D := fun e => do let c ← t e; if c then a e else b e
def eAnd (a b : DEnv → M D) : DEnv → M D := fun e => do let x ← a e; let c ← asB x; if c then b e else pure (.bl false)
def eOr (a b : DEnv → M D) : DEnv → M D := fun e => do let x ← a e; let c ← asB x; if c then pure (.bl true) else b e
def eNot (a : DEnv → M D) : DEnv → M D := fun e => do let x ← a e; let c ← asB x; pure (.bl (!c))
def eChain (g g' : D → D → M D) (a b c : DEnv → M D) : DEnv → M D := fun e => do
  let x ← a e; let y ← b e; let z ← g x y; let k ← asB z
  if k then (do let w ← c e; g' y w) else pure (.bl false)
def tB' (a : DEnv → M D) : DEnv → M Bool := fun e => do let x ← a e; asB x
def tAndD (t u : DEnv → M Bool) : DEnv → M Bool := fun e => do let c ← t e; if c then u e else pure false
def tOrD (t u : DEnv → M Bool) : DEnv → M Bool := fun e => do let c ← t e; if c then pure true else u e
def tNotD (t : DEnv → M Bool) : DEnv → M Bool := fun e => do let c ← t e; pure (!c)
def aNil : DEnv → M (List D) := fun _ => pure []
def aCons (a : DEnv → M D) (r : DEnv → M (List D)) : DEnv → M (List D) := fun e => do let x ← a e; let xs ← r e; pure (x :: xs)
def eCallB (g : List D → M D) (as : DEnv → M (List D)) : DEnv → M D := fun e => do let xs ← as e; g xs
def mkL (ds : List D) : M D := if ds.length ≤ 100000 then pure (.lst ds) else M.bad
def mkT (ds : List D) : M D := if ds.length ≤ 100000 then pure (.tup ds) else M.bad
def newM (ds : List D) : M D := fun m => if ds.length ≤ 100000 then .ok (.loc m.length) (m ++ [some (.lst ds)]) else .bad
def eTup (as : DEnv → M (List D)) : DEnv → M D := fun e => do let xs ← as e; mkT xs
def eLst (as : DEnv → M (List D)) : DEnv → M D := fun e => do let xs ← as e; mkL xs
def eLstM (as : DEnv → M (List D)) : DEnv → M D := fun e => do let xs ← as e; newM xs
/-- the items of a list or tuple -/
def seqD (d : D) : M (List D) := fun m => match d with
  | .lst ds => .ok ds m
  | .tup ds => .ok ds m
  | .loc n => match m[n]? with
    | some (some (.lst ds)) => .ok ds m
    | _ => .bad
  | _ => .bad
/-- a mutable list becomes data -/
def frzD (d : D) : M D := fun m => match d with
  | .loc n => match m[n]? with
    | some (some (.lst ds)) => .ok (.lst ds) (m.set n none)
    | _ => .bad
  | d => .ok d m
def eFrz (a : DEnv → M D) : DEnv → M D := fun e => do let x ← a e; frzD x

/-! ### how the rules of values lift -/
section
variable (k : Kx) (K : PySem.W.Frag) (E : XK)
def QV (Q : VK) : D → Store → Hp → Hp → Lam → Prop := fun d _ G' H' L' => ∀ v, Rp k K G' L' v d → Q v H'
def OpD (r : R2) (g : D → D → M D) : Prop := ∀ x y dx dy G H L μ Q, Rp k K G L x dx → Rp k K G L y dy → Wd k K G H L μ → Good k K E G H L (g dx dy μ) (QV k K Q) → r x y H Q
def UnD (r : V → Hp → VK → Prop) (g : D → M D) : Prop := ∀ x dx G H L μ Q, Rp k K G L x dx → Wd k K G H L μ → Good k K E G H L (g dx μ) (QV k K Q) → r x H Q
def ClD (r : List V → Hp → VK → Prop) (g : List D → M D) : Prop := ∀ xs ds G H L μ Q, RpA k K G L xs ds → Wd k K G H L μ → Good k K E G H L (g ds μ) (QV k K Q) → r xs H Q
end
def BinD (k : Kx) (X : Cx) (E : XK) (f : Value → Value → Sem Value) (g : D → D → M D) : Prop := ∃ r, OpR X f r ∧ OpD k X.K E r g
def FunD (k : Kx) (X : Cx) (E : XK) (f : Value) (g : List D → M D) : Prop := ∃ r, CallR X f r ∧ ClD k X.K E r g
def MonD (k : Kx) (X : Cx) (E : XK) (f : Value → Sem Value) (g : D → M D) : Prop := ∃ r, UnR X f r ∧ UnD k X.K E r g

section
variable {k : Kx} {X : Cx} {E : XK} {a b c : Expr} {ma mb mc : DEnv → M D} {pos : Pos}
/-- the step from one part to the next -/
theorem dE_bind {m : DEnv → M D} {f : D → DEnv → M D} {s : L2.St} {H : Hp} {Q : VK} (h : dE k X.K E (fun e => do let x ← m e; f x e) s H Q) :
    dE k X.K E m s H fun x H1 => ∃ e G L μ d, Sg k X.K G L s e ∧ Wd k X.K G H1 L μ ∧ Rp k X.K G L x d ∧ Good k X.K E G H1 L (f d e μ) (QV k X.K Q) := by
  obtain ⟨e, G, L, μ, sg, w, g⟩ := h
  refine ⟨e, G, L, μ, sg, w, Good.mono (Good.bind g) fun d m G' H' L' st w' q v r => ?_⟩
  exact ⟨e, G', L', m, d, sg.mono st.g st.l, w', r, q⟩
theorem dE_bindT {m : DEnv → M Bool} {f : Bool → DEnv → M D} {s : L2.St} {H : Hp} {Q : VK} (h : dE k X.K E (fun e => do let x ← m e; f x e) s H Q) :
    dT k X.K E m s H fun b H1 => ∃ e G L μ, Sg k X.K G L s e ∧ Wd k X.K G H1 L μ ∧ Good k X.K E G H1 L (f b e μ) (QV k X.K Q) := by
  obtain ⟨e, G, L, μ, sg, w, g⟩ := h
  refine ⟨e, G, L, μ, sg, w, Good.mono (Good.bind g) fun d m G' H' L' st w' q => ?_⟩
  exact ⟨e, G', L', m, sg.mono st.g st.l, w', q⟩
theorem dE_bindA {m : DEnv → M (List D)} {f : List D → DEnv → M D} {s : L2.St} {H : Hp} {Q : VK} (h : dE k X.K E (fun e => do let x ← m e; f x e) s H Q) :
    dA k X.K E m s H fun xs H1 => ∃ e G L μ ds, Sg k X.K G L s e ∧ Wd k X.K G H1 L μ ∧ RpA k X.K G L xs ds ∧ Good k X.K E G H1 L (f ds e μ) (QV k X.K Q) := by
  obtain ⟨e, G, L, μ, sg, w, g⟩ := h
  refine ⟨e, G, L, μ, sg, w, Good.mono (Good.bind g) fun d m G' H' L' st w' q v r => ?_⟩
  exact ⟨e, G', L', m, d, sg.mono st.g st.l, w', r, q⟩
/-- two parts, then an operation -/
theorem dE_op {r : R2} {g : D → D → M D} (hg : OpD k X.K E r g) {s : L2.St} {H : Hp} {Q : VK} (h : dE k X.K E (eOp g ma mb) s H Q) : tOp r (dE k X.K E ma) (dE k X.K E mb) s H Q := by
  obtain ⟨e, G, L, μ, sg, w, gd⟩ := h
  refine ⟨e, G, L, μ, sg, w, Good.mono (Good.bind gd) fun d1 m1 G1 H1 L1 st1 w1 q1 x r1 => ?_⟩
  refine ⟨e, G1, L1, m1, sg.mono st1.g st1.l, w1, Good.mono (Good.bind q1) fun d2 m2 G2 H2 L2 st2 w2 q2 y r2 => ?_⟩
  exact hg x y d1 d2 G2 H2 L2 m2 Q (Rp.mono st2.g st2.l _ _ r1) r2 w2 q2
theorem dE_val {d : D} {s : L2.St} {H : Hp} {Q : VK} (h : dE k X.K E (eC d) s H Q) {v : V} (r : ∀ G L, Rp k X.K G L v d) : Q v H := by
  obtain ⟨e, G, L, μ, sg, w, g⟩ := h
  exact Good.ret g w v (r G L)

/-! ### the rules -/
theorem j_var (i : Nat) {x : Str} (hN : X.N[i]? = some x := by rfl) (hv : Vis X.env.scope x := by first | exact Or.inl rfl | exact Or.inr (Or.inl rfl) | exact Or.inr (Or.inr rfl)) (hd : (x == ("__debug__" : Str)) = false := by decide)
    (hcd : (x == ("__classdict__" : Str)) = false := by decide) : JE k X E (.Name x pos) (eVar i) := by
  refine PE.imp (pe_var hN hv hd hcd) fun s H Q h => ?_
  obtain ⟨e, G, L, μ, sg, w, g⟩ := h
  unfold eVar getv at g
  cases he : e[i]? with
  | none =>
    simp only [he] at g
    exact False.elim g
  | some o =>
    cases o with
    | none =>
      simp only [he] at g
      exact False.elim g
    | some d =>
      simp only [he] at g
      obtain ⟨v, hv, r⟩ := sg.2 i d he
      exact ⟨v, hv, Good.ret g w v r⟩
theorem j_int {i : Int} {j} : JE k X E (.Constant (.int i) j pos) (eC (.int i)) := PE.imp pe_int fun s H Q h => dE_val h fun _ _ => .int i
theorem j_bl {i : Bool} {j} : JE k X E (.Constant (.bool i) j pos) (eC (.bl i)) := PE.imp pe_bl fun s H Q h => dE_val h fun _ _ => .bl i
theorem j_non {j} : JE k X E (.Constant .none j pos) (eC .non) := PE.imp pe_non fun s H Q h => dE_val h fun _ _ => .non
theorem j_str {x : Str} {j} : JE k X E (.Constant (.str x) j pos) (eC (.str x)) := PE.imp pe_str fun s H Q h => dE_val h fun _ _ => .str x
theorem j_glob {x : Str} {v : V} {u : Value} {d : D} (hg : Gl X x) (hm : X.mg x = some u) (r : RelV v u) (hr : ∀ G L, Rp k X.K G L v d) (hd : (x == ("__debug__" : Str)) = false := by decide) : JE k X E (.Name x pos) (eC d) :=
  PE.imp (pe_glob hg hm r hd) fun s H Q h => dE_val h hr
theorem j_op {op : Operator} {g : D → D → M D} (ho : BinD k X E (binaryOp op) g) (ha : JE k X E a ma) (hb : JE k X E b mb) : JE k X E (.BinOp a op b pos) (eOp g ma mb) := by
  obtain ⟨r, h1, h2⟩ := ho
  exact PE.imp (pe_op h1 ha hb) fun s H Q h => dE_op h2 h
theorem j_cmp {op : CmpOp} {g : D → D → M D} (ho : BinD k X E (compareOp op) g) (ha : JE k X E a ma) (hb : JE k X E b mb) (hm : behindInMarks op b = false) : JE k X E (.Compare a [op] [b] pos) (eOp g ma mb) := by
  obtain ⟨r, h1, h2⟩ := ho
  exact PE.imp (pe_cmpR h1 ha hb hm) fun s H Q h => dE_op h2 h
theorem j_un {op : UnaryOp} {g : D → M D} (ho : MonD k X E (unaryOp op) g) (ha : JE k X E a ma) : JE k X E (.UnaryOp op a pos) (eUn g ma) := by
  obtain ⟨r, h1, h2⟩ := ho
  refine PE.imp (pe_un h1 ha) fun s H Q h => ?_
  obtain ⟨e, G, L, μ, sg, w, gd⟩ := h
  refine ⟨e, G, L, μ, sg, w, Good.mono (Good.bind gd) fun d1 m1 G1 H1 L1 st1 w1 q1 x r1 => ?_⟩
  exact h2 x d1 G1 H1 L1 m1 Q r1 w1 q1
theorem asB_good {β : Type} {d : D} {f : Bool → M β} {G H : Hp} {L : Lam} {μ : Store} {Q : β → Store → Hp → Hp → Lam → Prop} {v : V} (r : Rp k X.K G L v d) (g : Good k X.K E G H L ((asB d >>= f) μ) Q) : ∃ b, v = .bl b ∧ d = .bl b ∧ Good k X.K E G H L (f b μ) Q := by
  cases d with
  | bl b =>
    cases r
    exact ⟨b, rfl, rfl, g⟩
  | _ => exact False.elim g
theorem j_ifexp {t : Expr} {mt : DEnv → M Bool} (ht : JT k X E t mt) (ha : JE k X E a ma) (hb : JE k X E b mb) : JE k X E (.IfExp t a b pos) (eIf mt ma mb) := by
  refine PE.imp (pe_ifExp ht ha hb) fun s H Q h => ?_
  obtain ⟨e, G, L, μ, sg, w, gd⟩ := h
  refine ⟨e, G, L, μ, sg, w, Good.mono (Good.bind gd) fun c m1 G1 H1 L1 st1 w1 q1 => ?_⟩
  cases c with
  | true => exact ⟨e, G1, L1, m1, sg.mono st1.g st1.l, w1, q1⟩
  | false => exact ⟨e, G1, L1, m1, sg.mono st1.g st1.l, w1, q1⟩
variable {rest : List Expr}
theorem j_one {op} (h : JE k X E a ma) : JE k X E (.BoolOp op [a] pos) ma := pe_one h
theorem j_and (ha : JE k X E a ma) (hb : JE k X E (.BoolOp .And (b :: rest) pos) mb) : JE k X E (.BoolOp .And (a :: b :: rest) pos) (eAnd ma mb) := by
  refine PE.imp (pe_and ha hb) fun s H Q h => ?_
  obtain ⟨e, G, L, μ, sg, w, gd⟩ := h
  refine ⟨e, G, L, μ, sg, w, Good.mono (Good.bind gd) fun d m1 G1 H1 L1 st1 w1 q1 v r => ?_⟩
  obtain ⟨c, rfl, rfl, q⟩ := asB_good r q1
  refine ⟨c, rfl, ?_⟩
  cases c with
  | true => exact ⟨e, G1, L1, m1, sg.mono st1.g st1.l, w1, q⟩
  | false => exact Good.ret q w1 _ (.bl false)
theorem j_or (ha : JE k X E a ma) (hb : JE k X E (.BoolOp .Or (b :: rest) pos) mb) : JE k X E (.BoolOp .Or (a :: b :: rest) pos) (eOr ma mb) := by
  refine PE.imp (pe_or ha hb) fun s H Q h => ?_
  obtain ⟨e, G, L, μ, sg, w, gd⟩ := h
  refine ⟨e, G, L, μ, sg, w, Good.mono (Good.bind gd) fun d m1 G1 H1 L1 st1 w1 q1 v r => ?_⟩
  obtain ⟨c, rfl, rfl, q⟩ := asB_good r q1
  refine ⟨c, rfl, ?_⟩
  cases c with
  | false => exact ⟨e, G1, L1, m1, sg.mono st1.g st1.l, w1, q⟩
  | true => exact Good.ret q w1 _ (.bl true)
theorem j_not (ha : JE k X E a ma) : JE k X E (.UnaryOp .Not a pos) (eNot ma) := by
  refine PE.imp (pe_not ha) fun s H Q h => ?_
  obtain ⟨e, G, L, μ, sg, w, gd⟩ := h
  refine ⟨e, G, L, μ, sg, w, Good.mono (Good.bind gd) fun d m1 G1 H1 L1 st1 w1 q1 v r => ?_⟩
  obtain ⟨c, rfl, rfl, q⟩ := asB_good r q1
  exact ⟨c, rfl, Good.ret q w1 _ (.bl _)⟩
theorem dE_chain {r r' : R2} {g g' : D → D → M D} (h1 : OpD k X.K E r g) (h2 : OpD k X.K E r' g') {s : L2.St} {H : Hp} {Q : VK} (h : dE k X.K E (eChain g g' ma mb mc) s H Q) : tChain r r' (dE k X.K E ma) (dE k X.K E mb) (dE k X.K E mc) s H Q := by
  obtain ⟨e, G, L, μ, sg, w, gd⟩ := h
  refine ⟨e, G, L, μ, sg, w, Good.mono (Good.bind gd) fun d1 m1 G1 H1 L1 st1 w1 q1 x r1 => ?_⟩
  refine ⟨e, G1, L1, m1, sg.mono st1.g st1.l, w1, Good.mono (Good.bind q1) fun d2 m2 G2 H2 L2 st2 w2 q2 y r2 => ?_⟩
  refine h1 x y d1 d2 G2 H2 L2 m2 _ (Rp.mono st2.g st2.l _ _ r1) r2 w2 (Good.mono (Good.bind q2) fun d3 m3 G3 H3 L3 st3 w3 q3 z r3 => ?_)
  obtain ⟨c, rfl, rfl, q⟩ := asB_good r3 q3
  refine ⟨c, rfl, ?_⟩
  cases c with
  | false => exact Good.ret q w3 _ (.bl false)
  | true =>
    refine ⟨e, G3, L3, m3, ((sg.mono st1.g st1.l).mono st2.g st2.l).mono st3.g st3.l, w3, Good.mono (Good.bind q) fun d4 m4 G4 H4 L4 st4 w4 q4 u r4 => ?_⟩
    exact h2 y u d2 d4 G4 H4 L4 m4 Q (Rp.mono st4.g st4.l _ _ (Rp.mono st3.g st3.l _ _ r2)) r4 w4 q4
theorem j_chain {op op' : CmpOp} {g g' : D → D → M D} (ho : BinD k X E (compareOp op) g) (ho' : BinD k X E (compareOp op') g') (ha : JE k X E a ma) (hb : JE k X E b mb) (hc : JE k X E c mc)
    (hm : lastMarks [op, op'] [b, c] = false := by with_unfolding_all rfl) : JE k X E (.Compare a [op, op'] [b, c] pos) (eChain g g' ma mb mc) := by
  obtain ⟨r, h1, h2⟩ := ho
  obtain ⟨r', h1', h2'⟩ := ho'
  exact PE.imp (pe_chain h1 h1' ha hb hc hm) fun s H Q h => dE_chain h2 h2' h

/-! tests -/
theorem dT_B {t : TE → TT} {te : TE} {s : L2.St} {H : Hp} {Q : Bool → Hp → Prop} {m : DEnv → M D} (h : dT k X.K E (tB' m) s H Q) : dE k X.K E m s H fun x H' => ∃ c, x = .bl c ∧ Q c H' := by
  obtain ⟨e, G, L, μ, sg, w, gd⟩ := h
  refine ⟨e, G, L, μ, sg, w, Good.mono (Good.bind gd) fun d m1 G1 H1 L1 st1 w1 q1 v r => ?_⟩
  obtain ⟨c, rfl, rfl, q⟩ := asB_good (f := fun b => (pure b : M Bool)) r (show Good k X.K E G1 H1 L1 ((asB d >>= fun b => (pure b : M Bool)) m1) _ by
    have e2 : (asB d >>= fun b => (pure b : M Bool)) m1 = asB d m1 := by
      cases d <;> rfl
    rw [e2]
    exact q1)
  exact ⟨c, rfl, Good.ret q w1⟩
theorem jt_val (h : JE k X E a ma) (he : ∀ whole, isTrue a X.env whole = (do let v ← whole; standAt a.pos; holding [v] (truthy v)) := by intro _; rfl) : JT k X E a (tB' ma) :=
  PT.imp (pt_val h he) fun s H Q h => dT_B (t := fun _ => tYes) (te := tC .non) h
theorem jt_cmp {op : CmpOp} {g : D → D → M D} (ho : BinD k X E (compareOp op) g) (ha : JE k X E a ma) (hb : JE k X E b mb) (hm : behindInMarks op b = false) : JT k X E (.Compare a [op] [b] pos) (tB' (eOp g ma mb)) := by
  obtain ⟨r, h1, h2⟩ := ho
  exact PT.imp (pt_cmpR h1 ha hb hm) fun s H Q h => dE_op h2 (dT_B (t := fun _ => tYes) (te := tC .non) h)
theorem jt_chain {op op' : CmpOp} {g g' : D → D → M D} (ho : BinD k X E (compareOp op) g) (ho' : BinD k X E (compareOp op') g') (ha : JE k X E a ma) (hb : JE k X E b mb) (hc : JE k X E c mc)
    (hm : lastMarks [op, op'] [b, c] = false := by with_unfolding_all rfl) : JT k X E (.Compare a [op, op'] [b, c] pos) (tB' (eChain g g' ma mb mc)) := by
  obtain ⟨r, h1, h2⟩ := ho
  obtain ⟨r', h1', h2'⟩ := ho'
  exact PT.imp (pt_chain h1 h1' ha hb hc hm) fun s H Q h => dE_chain h2 h2' (dT_B (t := fun _ => tYes) (te := tC .non) h)
/-- truth of any data -/
def truD (d : D) : M Bool := fun m => match d with
  | .non => .ok false m
  | .bl b => .ok b m
  | .int i => .ok (i != 0) m
  | .str x => if x.length ≤ 100000 then .ok ((x.length : Int) != 0) m else .bad
  | .lst ds => .ok (!ds.isEmpty) m
  | .tup ds => .ok (!ds.isEmpty) m
  | .loc n => match m[n]? with
    | some (some (.lst ds)) => .ok (!ds.isEmpty) m
    | _ => .bad
  | _ => .bad
def tTru (a : DEnv → M D) : DEnv → M Bool := fun e => do let x ← a e; truD x
theorem rpA_emp {G : Hp} {L : Lam} {vs : List V} {ds : List D} (r : RpA k X.K G L vs ds) : (!vs.isEmpty) = !ds.isEmpty := by
  cases ds with
  | nil => cases r; rfl
  | cons d ds => cases r; rfl
theorem size_of {n : Nat} (h : n ≤ 100000) : n ≤ sizeLine := Nat.le_trans h (by decide)
theorem tru_of {d : D} {x : V} {G H : Hp} {L : Lam} {μ : Store} {Q : Bool → Hp → Prop} (r : Rp k X.K G L x d) (w : Wd k X.K G H L μ) (g : Good k X.K E G H L (truD d μ) fun b _ _ H' _ => Q b H') : ∃ kk, TruV X.K x H kk ∧ Q kk H := by
  unfold truD at g
  cases d with
  | non => cases r; exact ⟨false, rfl, Good.okE g w⟩
  | bl b => cases r; exact ⟨b, rfl, Good.okE g w⟩
  | int i => cases r; exact ⟨_, rfl, Good.okE g w⟩
  | str y =>
    cases r
    by_cases hz : y.length ≤ 100000
    · simp only [hz, if_true] at g
      exact ⟨_, ⟨size_of hz, rfl⟩, Good.okE g w⟩
    · simp only [hz, if_false] at g
      exact False.elim g
  | lst ds =>
    cases r with
    | lst hs ha => exact ⟨_, .inl ⟨_, w.ext.seq hs, rfl⟩, by rw [rpA_emp ha]; exact Good.okE g w⟩
  | tup ds =>
    cases r with
    | tup hs ha => exact ⟨_, .inr (.inl ⟨_, sqT_mono w.ext hs, rfl⟩), by rw [rpA_emp ha]; exact Good.okE g w⟩
  | loc n =>
    simp only at g
    cases hm : μ[n]? with
    | none => rw [hm] at g; exact False.elim g
    | some o =>
      cases o with
      | none => rw [hm] at g; exact False.elim g
      | some c =>
        cases c with
        | ins _ _ => rw [hm] at g; exact False.elim g
        | lst ds =>
          rw [hm] at g
          obtain ⟨a, vs, rfl, _, _, h, ra⟩ := w.look hm r
          exact ⟨_, .inl ⟨_, SqL.of h, rfl⟩, by rw [rpA_emp ra]; exact Good.okE g w⟩
  | obj c ds => exact False.elim g
  | cls c => exact False.elim g
theorem jt_tru (h : JE k X E a ma) (he : ∀ whole, isTrue a X.env whole = (do let v ← whole; standAt a.pos; holding [v] (truthy v)) := by intro _; rfl) : JT k X E a (tTru ma) := by
  refine PT.imp (pt_truth h he) fun s H Q h => ?_
  obtain ⟨e, G, L, μ, sg, w, gd⟩ := h
  refine ⟨e, G, L, μ, sg, w, Good.mono (Good.bind gd) fun d m1 G1 H1 L1 st1 w1 q1 v r => ?_⟩
  exact tru_of r w1 q1
variable {t : Expr} {mt mu : DEnv → M Bool}
theorem jt_w (h : JW k X E t mt) : JT k X E t mt := h.pt
theorem jt_not (h : JT k X E t mt) : JT k X E (.UnaryOp .Not t pos) (tNotD mt) := by
  refine PT.imp (pt_not h) fun s H Q h => ?_
  obtain ⟨e, G, L, μ, sg, w, gd⟩ := h
  refine ⟨e, G, L, μ, sg, w, Good.mono (Good.bind gd) fun c m1 G1 H1 L1 st1 w1 q1 => ?_⟩
  exact Good.ret q1 w1
theorem jw_and1 (h : JT k X E t mt) : JW k X E (.BoolOp .And [t] pos) mt := pw_and1 h
theorem jw_or1 (h : JT k X E t mt) : JW k X E (.BoolOp .Or [t] pos) mt := pw_or1 h
theorem jw_and (h : JT k X E t mt) (hb : JW k X E (.BoolOp .And (b :: rest) pos) mu) : JW k X E (.BoolOp .And (t :: b :: rest) pos) (tAndD mt mu) := by
  refine PW.imp (pw_and h hb) fun s H Q h => ?_
  obtain ⟨e, G, L, μ, sg, w, gd⟩ := h
  refine ⟨e, G, L, μ, sg, w, Good.mono (Good.bind gd) fun c m1 G1 H1 L1 st1 w1 q1 => ?_⟩
  cases c with
  | true => exact ⟨e, G1, L1, m1, sg.mono st1.g st1.l, w1, q1⟩
  | false => exact Good.ret q1 w1
theorem jw_or (h : JT k X E t mt) (hb : JW k X E (.BoolOp .Or (b :: rest) pos) mu) : JW k X E (.BoolOp .Or (t :: b :: rest) pos) (tOrD mt mu) := by
  refine PW.imp (pw_or h hb) fun s H Q h => ?_
  obtain ⟨e, G, L, μ, sg, w, gd⟩ := h
  refine ⟨e, G, L, μ, sg, w, Good.mono (Good.bind gd) fun c m1 G1 H1 L1 st1 w1 q1 => ?_⟩
  cases c with
  | false => exact ⟨e, G1, L1, m1, sg.mono st1.g st1.l, w1, q1⟩
  | true => exact Good.ret q1 w1

/-! argument lists, displays -/
variable {es : List Expr} {ms : DEnv → M (List D)}
theorem ja_nil : JA k X E [] aNil := by
  refine PA.imp pa_nil fun s H Q h => ?_
  obtain ⟨e, G, L, μ, sg, w, gd⟩ := h
  exact Good.ret gd w [] .nil
theorem ja_cons (ha : JE k X E a ma) (hr : JA k X E es ms) (hs : starEach (a :: es) X.env = (false, eval a X.env) :: starEach es X.env := by rfl) : JA k X E (a :: es) (aCons ma ms) := by
  refine PA.imp (pa_cons ha hr hs) fun s H Q h => ?_
  obtain ⟨e, G, L, μ, sg, w, gd⟩ := h
  refine ⟨e, G, L, μ, sg, w, Good.mono (Good.bind gd) fun d1 m1 G1 H1 L1 st1 w1 q1 x r1 => ?_⟩
  refine ⟨e, G1, L1, m1, sg.mono st1.g st1.l, w1, Good.mono (Good.bind q1) fun d2 m2 G2 H2 L2 st2 w2 q2 xs r2 => ?_⟩
  exact Good.ret q2 w2 _ (.cons (Rp.mono st2.g st2.l _ _ r1) r2)
theorem good_ite {α : Type} {c : Prop} [Decidable c] {x : M α} {G H : Hp} {L : Lam} {μ : Store} {Q : α → Store → Hp → Hp → Lam → Prop} (g : Good k X.K E G H L ((if c then x else M.bad) μ) Q) : c ∧ Good k X.K E G H L (x μ) Q := by
  by_cases h : c
  · rw [if_pos h] at g
    exact ⟨h, g⟩
  · rw [if_neg h] at g
    exact False.elim g
/-- a new list, as data -/
theorem good_mkL {G H : Hp} {L : Lam} {μ : Store} {Q : VK} {vs : List V} {ds : List D} (r : RpA k X.K G L vs ds) (w : Wd k X.K G H L μ) (g : Good k X.K E G H L (mkL ds μ) (QV k X.K Q)) :
    vs.length ≤ sizeLine ∧ ∀ p, H p = none → Q (.ref p) (upd H p (.lst vs)) := by
  obtain ⟨hz, g⟩ := good_ite g
  refine ⟨by rw [r.len]; exact size_of hz, fun p hp => ?_⟩
  exact g _ _ _ (w.newS hp) (w.new hp) _ (.lst (SqL.of upd_same) (RpA.mono (w.newS (o := .lst vs) hp).g (pre_refl L) _ _ r))
theorem good_mkT {G H : Hp} {L : Lam} {μ : Store} {Q : VK} {vs : List V} {ds : List D} (r : RpA k X.K G L vs ds) (w : Wd k X.K G H L μ) (g : Good k X.K E G H L (mkT ds μ) (QV k X.K Q)) :
    vs.length ≤ sizeLine ∧ ∀ p, H p = none → Q (.ref p) (upd H p (.tup vs)) := by
  obtain ⟨hz, g⟩ := good_ite g
  refine ⟨by rw [r.len]; exact size_of hz, fun p hp => ?_⟩
  exact g _ _ _ (w.newS hp) (w.new hp) _ (.tup (SqT.of upd_same) (RpA.mono (w.newS (o := .tup vs) hp).g (pre_refl L) _ _ r))
theorem good_newM {G H : Hp} {L : Lam} {μ : Store} {Q : VK} {vs : List V} {ds : List D} (r : RpA k X.K G L vs ds) (w : Wd k X.K G H L μ) (g : Good k X.K E G H L (newM ds μ) (QV k X.K Q)) :
    vs.length ≤ sizeLine ∧ ∀ p, H p = none → Q (.ref p) (upd H p (.lst vs)) := by
  unfold newM at g
  by_cases hz : ds.length ≤ 100000
  · rw [if_pos hz] at g
    refine ⟨by rw [r.len]; exact size_of hz, fun p hp => ?_⟩
    exact g _ _ _ (newLocS hp) (w.newLoc hp r) _ (.loc (a := p) (b := p) (by rw [← w.len]; simp))
  · rw [if_neg hz] at g
    exact False.elim g
theorem j_tup {x1} (h : JA k X E es ms) : JE k X E (.Tuple es x1 pos) (eTup ms) := by
  refine PE.imp (pe_tup h) fun s H Q h => ?_
  obtain ⟨e, G, L, μ, sg, w, gd⟩ := h
  exact ⟨e, G, L, μ, sg, w, Good.mono (Good.bind gd) fun d1 m1 G1 H1 L1 st1 w1 q1 x r1 => good_mkT r1 w1 q1⟩
theorem j_lst (h : JA k X E es ms) : JE k X E (.List es pos) (eLst ms) := by
  refine PE.imp (pe_lst h) fun s H Q h => ?_
  obtain ⟨e, G, L, μ, sg, w, gd⟩ := h
  exact ⟨e, G, L, μ, sg, w, Good.mono (Good.bind gd) fun d1 m1 G1 H1 L1 st1 w1 q1 x r1 => good_mkL r1 w1 q1⟩
theorem j_lstM (h : JA k X E es ms) : JE k X E (.List es pos) (eLstM ms) := by
  refine PE.imp (pe_lst h) fun s H Q h => ?_
  obtain ⟨e, G, L, μ, sg, w, gd⟩ := h
  exact ⟨e, G, L, μ, sg, w, Good.mono (Good.bind gd) fun d1 m1 G1 H1 L1 st1 w1 q1 x r1 => good_newM r1 w1 q1⟩
/-- any expression, its value frozen -/
theorem good_frz {G H : Hp} {L : Lam} {μ : Store} {d : D} {v : V} {Q : VK} (r : Rp k X.K G L v d) (w : Wd k X.K G H L μ) (g : Good k X.K E G H L (frzD d μ) (QV k X.K Q)) : Q v H := by
  unfold frzD at g
  cases d with
  | loc n =>
    simp only at g
    cases hm : μ[n]? with
    | none => rw [hm] at g; exact False.elim g
    | some o =>
      cases o with
      | none => rw [hm] at g; exact False.elim g
      | some c =>
        cases c with
        | ins _ _ => rw [hm] at g; exact False.elim g
        | lst ds =>
          rw [hm] at g
          obtain ⟨a, vs, rfl, hl, ga, h, ra⟩ := w.look hm r
          exact g _ _ _ (freezeS hl ga) (w.freeze hm hl h) _ (.lst (SqL.of upd_same) (RpA.mono (Same.new ga) (pre_refl L) _ _ ra))
  | _ => exact Good.okE g w v r
theorem j_frz (h : JE k X E a ma) : JE k X E a (eFrz ma) := by
  refine PE.imp h fun s H Q h => ?_
  obtain ⟨e, G, L, μ, sg, w, gd⟩ := h
  exact ⟨e, G, L, μ, sg, w, Good.mono (Good.bind gd) fun d1 m1 G1 H1 L1 st1 w1 q1 x r1 => good_frz r1 w1 q1⟩

/-! built-ins by name -/
variable {x : Str} {p : Pos} {id T : String} {g : List D → M D}
theorem j_callB (hc : FunD k X E (.builtin id) g) (hg : Gl X x) (hm : X.mg x = none) (hv : bootBuiltins x = some (.builtin id)) (ha : JA k X E (a :: es) ms) (hn : x ≠ "__name__" := by decide) (hdb : (x == ("__debug__" : Str)) = false := by decide)
    (he : starEach (a :: es) X.env = (false, eval a X.env) :: starEach es X.env := by rfl) (hpl : (backTo pos (starEach es X.env)).any (·.1) = false := by rfl) : JE k X E (.Call (.Name x p) (a :: es) [] pos) (eCallB g ms) := by
  obtain ⟨r, h1, h2⟩ := hc
  refine PE.imp (pe_callB h1 hg hm hv ha hn hdb he hpl) fun s H Q h => ?_
  obtain ⟨e, G, L, μ, sg, w, gd⟩ := h
  exact ⟨e, G, L, μ, sg, w, Good.mono (Good.bind gd) fun d1 m1 G1 H1 L1 st1 w1 q1 x r1 => h2 x d1 G1 H1 L1 m1 Q r1 w1 q1⟩
theorem j_callTy (hc : FunD k X E (.type T) g) (hg : Gl X x) (hm : X.mg x = none) (hv : bootBuiltins x = some (.type T)) (ha : JA k X E (a :: es) ms) (hn : x ≠ "__name__" := by decide) (hdb : (x == ("__debug__" : Str)) = false := by decide)
    (he : starEach (a :: es) X.env = (false, eval a X.env) :: starEach es X.env := by rfl) (hpl : (backTo pos (starEach es X.env)).any (·.1) = false := by rfl) : JE k X E (.Call (.Name x p) (a :: es) [] pos) (eCallB g ms) := by
  obtain ⟨r, h1, h2⟩ := hc
  refine PE.imp (pe_callTy h1 hg hm hv ha hn hdb he hpl) fun s H Q h => ?_
  obtain ⟨e, G, L, μ, sg, w, gd⟩ := h
  exact ⟨e, G, L, μ, sg, w, Good.mono (Good.bind gd) fun d1 m1 G1 H1 L1 st1 w1 q1 x r1 => h2 x d1 G1 H1 L1 m1 Q r1 w1 q1⟩
end
end DL

namespace DL
open PySem L2 PyProof.Rows

/-! ### operations on data -/
def gI (C : Int → Int → Prop) [∀ i j, Decidable (C i j)] (f : Int → Int → D) : D → D → M D
  | .int i, .int j => if C i j then pure (f i j) else M.bad
  | _, _ => M.bad
def gI0 (f : Int → Int → D) : D → D → M D
  | .int i, .int j => pure (f i j)
  | _, _ => M.bad
def addD (x y : D) : M D := match x, y with
  | .int i, .int j => pure (.int (i + j))
  | .str i, .str j => if i.length + j.length ≤ 100000 then pure (.str (i ++ j)) else M.bad
  | .tup i, .tup j => mkT (i ++ j)
  | x, y => do let i ← (match x with | .tup _ => M.bad | _ => seqD x); let j ← (match y with | .tup _ => M.bad | _ => seqD y); mkL (i ++ j)
abbrev CM (i j : Int) : Prop := (-(2 ^ 64) < i ∧ i < 2 ^ 64) ∨ (-(2 ^ 64) < j ∧ j < 2 ^ 64)
abbrev CDv (_ j : Int) : Prop := 0 < j ∧ j < 2 ^ 100
abbrev CPw (i j : Int) : Prop := 0 ≤ j ∧ j ≤ 1000 ∧ i.natAbs < 2 ^ 64
def subD : D → D → M D := gI0 fun i j => .int (i - j)
def modD : D → D → M D := gI (fun _ j => 0 < j) fun i j => .int (i % j)
def fdvD : D → D → M D := gI CDv fun i j => .int (i / j)
def powD : D → D → M D := gI CPw fun i j => .int (i ^ j.toNat)
def negD : D → M D
  | .int i => pure (.int (-i))
  | _ => M.bad
def mulD (x y : D) : M D := match x, y with
  | .int i, .int j => if CM i j then pure (.int (i * j)) else M.bad
  | .tup i, .int j => if 1 ≤ j ∧ j ≤ 1000 ∧ i.length ≤ 1000 ∧ 0 < i.length then pure (.tup (List.replicate j.toNat i).flatten) else M.bad
  | _, _ => M.bad

section
variable {k : Kx} {X : Cx} {E : XK}
theorem OpR.or {f : Value → Value → Sem Value} {r r' : R2} (h : OpR X f r) (h' : OpR X f r') : OpR X f (fun x y H Q => r x y H Q ∨ r' x y H Q) := by
  intro pins s σ H x y v u Q I rx ry q
  rcases q with q | q
  · exact h pins s σ H x y v u Q I rx ry q
  · exact h' pins s σ H x y v u Q I rx ry q
theorem OpR.weak {f : Value → Value → Sem Value} {r r' : R2} (h : OpR X f r) (q : ∀ x y H Q, r' x y H Q → r x y H Q) : OpR X f r' := by
  intro pins s σ H x y v u Q I rx ry w
  exact h pins s σ H x y v u Q I rx ry (q _ _ _ _ w)
theorem opD_I {C : Int → Int → Prop} [∀ i j, Decidable (C i j)] {C' : Int → Int → Prop} {f : Int → Int → D} {g : Int → Int → V} (hC : ∀ i j, C i j → C' i j) (hr : ∀ G L i j, Rp k X.K G L (g i j) (f i j)) : OpD k X.K E (rI C' g) (gI C f) := by
  intro x y dx dy G H L μ Q rx ry w gd
  cases dx with
  | int i =>
    cases dy with
    | int j =>
      cases rx
      cases ry
      obtain ⟨hc, gd⟩ := good_ite gd
      exact ⟨i, j, rfl, rfl, hC i j hc, Good.ret gd w _ (hr _ _ i j)⟩
    | _ => exact False.elim gd
  | _ => exact False.elim gd
theorem opD_I0 {f : Int → Int → D} {g : Int → Int → V} (hr : ∀ G L i j, Rp k X.K G L (g i j) (f i j)) : OpD k X.K E (rI0 g) (gI0 f) := by
  intro x y dx dy G H L μ Q rx ry w gd
  cases dx with
  | int i =>
    cases dy with
    | int j =>
      cases rx
      cases ry
      exact ⟨i, j, rfl, rfl, Good.ret gd w _ (hr _ _ i j)⟩
    | _ => exact False.elim gd
  | _ => exact False.elim gd
theorem b_sub : BinD k X E (binaryOp .Sub) subD := ⟨_, op_sub, opD_I0 fun _ _ _ _ => .int _⟩
theorem b_mod : BinD k X E (binaryOp .Mod) modD := ⟨_, op_mod, opD_I (fun _ _ h => h) fun _ _ _ _ => .int _⟩
theorem fdv_ok {i j : Int} (h : CDv i j) : CDivW i j := ⟨h.1, by
  have h2 : j.natAbs < 2 ^ 100 := by omega
  exact Nat.lt_of_lt_of_le (PySem.Flt.log2_lt_of (by decide) h2) (by decide)⟩
theorem b_fdv : BinD k X E (binaryOp .FloorDiv) fdvD := ⟨_, op_fdivW, opD_I (fun _ _ h => fdv_ok h) fun _ _ _ _ => .int _⟩
theorem b_pow : BinD k X E (binaryOp .Pow) powD := ⟨_, op_pow, opD_I (fun _ _ h => ⟨h.1, by have := h.2.1; omega, h.2.2⟩) fun _ _ _ _ => .int _⟩
theorem u_neg : MonD k X E (unaryOp .USub) negD := by
  refine ⟨_, un_neg, fun x dx G H L μ Q r w g => ?_⟩
  cases dx with
  | int i => cases r; exact ⟨i, rfl, Good.ret g w _ (.int _)⟩
  | _ => exact False.elim g

/-- what a list or tuple is read as, by its data -/
theorem seq_of {d : D} {x : V} {G H : Hp} {L : Lam} {μ : Store} {β : Type} {f : List D → M β} {Q : β → Store → Hp → Hp → Lam → Prop} (r : Rp k X.K G L x d) (w : Wd k X.K G H L μ) (g : Good k X.K E G H L ((seqD d >>= f) μ) Q) :
    ∃ a vs ds, x = .ref a ∧ RpA k X.K G L vs ds ∧ ((SqL X.K H a vs ∧ ∀ t, d ≠ .tup t) ∨ (SqT X.K H a vs ∧ d = .tup ds)) ∧ Good k X.K E G H L (f ds μ) Q := by
  cases d with
  | lst ds =>
    cases r with
    | lst hs ha => exact ⟨_, _, ds, rfl, ha, .inl ⟨w.ext.seq hs, fun _ z => nomatch z⟩, g⟩
  | tup ds =>
    cases r with
    | tup hs ha => exact ⟨_, _, ds, rfl, ha, .inr ⟨sqT_mono w.ext hs, rfl⟩, g⟩
  | loc n =>
    have g' : Good k X.K E G H L (M.bind (seqD (.loc n)) f μ) Q := g
    unfold M.bind seqD at g'
    simp only at g'
    cases hm : μ[n]? with
    | none => rw [hm] at g'; exact False.elim g'
    | some o =>
      cases o with
      | none => rw [hm] at g'; exact False.elim g'
      | some c =>
        cases c with
        | ins _ _ => rw [hm] at g'; exact False.elim g'
        | lst ds =>
          rw [hm] at g'
          obtain ⟨a, vs, rfl, _, _, h, ra⟩ := w.look hm r
          exact ⟨a, vs, ds, rfl, ra, .inl ⟨SqL.of h, fun _ z => nomatch z⟩, g'⟩
  | _ => exact False.elim g
/-- list + list, whatever they are read from -/
def rCatS (K : PySem.W.Frag) : R2 := fun x y H Q => ∃ l b xs zs, x = .ref l ∧ y = .ref b ∧ SqL K H l xs ∧ SqL K H b zs ∧ xs.length + zs.length ≤ sizeLine ∧ ∀ p, H p = none → Q (.ref p) (upd H p (.lst (xs ++ zs)))
theorem op_catS : OpR X (binaryOp .Add) (rCatS X.K) := by
  intro pins s σ H x y v u Q I rx ry h
  obtain ⟨l, b, xs, zs, rfl, rfl, hH, hB, hz, q⟩ := h
  cases rx
  cases ry
  obtain ⟨its, r, pl, z⟩ := I.list hH
  obtain ⟨its2, r2, pl2, z2⟩ := I.list hB
  have hl := r.length
  have hl2 := r2.length
  obtain ⟨⟨cls, dd, data, sl⟩, ho, hc, n, hd⟩ := pl.isList
  obtain ⟨⟨cls2, dd2, data2, sl2⟩, ho2, hc2, n2, hd2⟩ := pl2.isList
  simp only at hc hd hc2 hd2
  subst hc hd hc2 hd2
  have e : its.toArray ++ its2.toArray = (its ++ its2).toArray := by simp
  refine concat_meets ⟨_, ho, rfl⟩ ⟨_, ho2, rfl⟩ noFill_list_add seq_list_add PySem.F.slot_list_add PySem.F.entry_list_add (PySem.F.args_list_add_2 _ _) (list_addW l b its.toArray its2.toArray n n2 dd dd2 sl sl2 (by simp only [List.size_toArray]; omega)) ⟨ho, ho2, ?_⟩
  rw [e]
  exact ⟨.ref _, _, I.lnew (t' := s.toks) (r.append r2) (by rw [List.length_append]; omega), rfl, q _ I.fresh⟩
theorem b_add : BinD k X E (binaryOp .Add) addD := by
  refine ⟨_, OpR.or op_add (OpR.or op_add_str (OpR.or op_catA op_catS)), fun x y dx dy G H L μ Q rx ry w g => ?_⟩
  have lst : Good k X.K E G H L ((do let i ← seqD dx; let j ← seqD dy; mkL (i ++ j)) μ) (QV k X.K Q) → (∀ t, dx ≠ .tup t) → (∀ t, dy ≠ .tup t) → rCatS X.K x y H Q := fun g n1 n2 => by
    obtain ⟨a, vs, ds, rfl, ra, hs, g⟩ := seq_of rx w g
    obtain ⟨b, ws, es, rfl, rb, ht, g⟩ := seq_of ry w g
    rcases hs with ⟨hs, _⟩ | ⟨_, e⟩
    · rcases ht with ⟨ht, _⟩ | ⟨_, e⟩
      · obtain ⟨hz, q⟩ := good_mkL (ra.append rb) w g
        exact ⟨a, b, vs, ws, rfl, rfl, hs, ht, by rw [List.length_append] at hz; exact hz, q⟩
      · exact absurd e (n2 es)
    · exact absurd e (n1 ds)
  cases dx with
  | int i =>
    cases dy with
    | int j => cases rx; cases ry; exact .inl ⟨i, j, rfl, rfl, Good.ret g w _ (.int _)⟩
    | _ => exact False.elim g
  | str i =>
    cases dy with
    | str j =>
      cases rx
      cases ry
      obtain ⟨hz, g⟩ := good_ite g
      exact .inr (.inl ⟨i, j, rfl, rfl, size_of hz, Good.ret g w _ (.str _)⟩)
    | _ => exact False.elim g
  | tup ds =>
    cases dy with
    | tup es =>
      cases rx with
      | @tup a xs _ hs ha =>
        cases ry with
        | @tup b ys _ ht hb =>
          have g2 := g
          obtain ⟨hz, g1⟩ := good_ite g2
          have hs' := sqT_mono w.ext hs
          have ht' := sqT_mono w.ext ht
          refine .inr (.inr (.inl ⟨a, b, xs, ys, rfl, rfl, hs', ht', ?_, fun e => ?_, fun _ e => ?_, fun _ _ p hp => ?_⟩))
          · rw [ha.len, hb.len, ← List.length_append]
            exact size_of hz
          · subst e
            cases ha
            exact Good.ret g1 w _ (.tup ht hb)
          · subst e
            cases hb
            rw [List.append_nil] at g1
            exact Good.ret g1 w _ (.tup hs ha)
          · exact (good_mkT (ha.append hb) w g).2 p hp
    | _ => exact False.elim g
  | lst ds =>
    cases dy with
    | tup _ => exact False.elim g
    | lst es => exact .inr (.inr (.inr (lst g (fun _ z => nomatch z) fun _ z => nomatch z)))
    | loc n => exact .inr (.inr (.inr (lst g (fun _ z => nomatch z) fun _ z => nomatch z)))
    | _ => exact False.elim g
  | loc n =>
    refine .inr (.inr (.inr ?_))
    cases dy with
    | tup _ =>
      obtain ⟨a, vs, ds, rfl, ra, hs, g⟩ := seq_of (f := fun i => do let j ← (M.bad : M (List D)); mkL (i ++ j)) rx w g
      exact False.elim g
    | lst es => exact lst g (fun _ z => nomatch z) fun _ z => nomatch z
    | loc n => exact lst g (fun _ z => nomatch z) fun _ z => nomatch z
    | _ =>
      obtain ⟨a, vs, ds, rfl, ra, hs, g⟩ := seq_of rx w g
      exact False.elim g
  | _ =>
    cases dy <;> exact False.elim g
end
end DL

namespace DL
open PySem L2 PyProof.Rows

section
variable {k : Kx} {X : Cx} {E : XK}
/-! ### multiplication -/
theorem tuple_mul1 (l : Addr) (items : Array Value) (n : Nat) (dd : Option Addr) (sl : Array (Option Value)) (u : Tok) :
    Meets (Builtin.«tuple.__mul__» ⟨[.ref l, .int 1 u], []⟩) (fun _ R s => s.heap.get? l = some { cls := .type "tuple", dict := dd, data := .seq items n, slots := sl } ∧ R (.ok (.ret (Value.ref l))) s) :=
  .of_wp fun prog w A R s h => by
    obtain ⟨hp, g, d, tk, os⟩ := s
    obtain ⟨hl, h⟩ := h
    have f1 := AutoSeq1.idx_int
    have c1 : (items.isEmpty || (1 : Int) == 1) = true := by simp
    wp_walk using wpAny_loadPart' hl
    repeat (first
      | (refine wpAny_ite_true (decide_eq_true c1) ?_; wp_walk using wpAny_loadPart' hl))
    exact ⟨_, rfl, h⟩
theorem op_repT1 : OpR X (binaryOp .Mult) (fun x y H Q => ∃ l xs, x = .ref l ∧ y = .int 1 ∧ SqT X.K H l xs ∧ Q (.ref l) H) := by
  intro pins s σ H x y v u Q I rx ry h
  obtain ⟨l, xs, rfl, rfl, hT, q⟩ := h
  cases rx
  obtain ⟨t, rfl⟩ := ry
  obtain ⟨its, r, ⟨⟨cls, dd, data, sl⟩, ho, hc, n, hd⟩, hs⟩ := I.tuple hT
  simp only at hc hd
  subst hc hd
  refine wpAny_binaryOp_repeat_ref (T := "tuple") (U := "int") (by decide) ⟨_, ho, rfl⟩ (fun s' => typeIs_int s' 1 t) noFill_tuple_mul PySem.F.fills_int_mul PySem.F.slot_int_rmul repeat_tuple PySem.F.slot_int_index.lookup
    (call_meets PySem.F.slot_int_rmul (typeIs_int s 1 t) PySem.F.entry_int_rmul (PySem.F.args_int_rmul_2 _ _) (int_rmul_tuple 1 t l its.toArray n dd sl)
      ⟨ho, rfl, ⟨_, ho, rfl⟩, call_meets PySem.F.slot_tuple_mul ⟨_, ho, rfl⟩ PySem.F.entry_tuple_mul (PySem.F.args_tuple_mul_2 _ _) (tuple_mul1 l its.toArray n dd sl t) ⟨ho, ?_⟩⟩)
  exact ⟨.ref l, H, I, rfl, q⟩
theorem rpA_rep {G : Hp} {L : Lam} {vs : List V} {ds : List D} (r : RpA k X.K G L vs ds) : ∀ n : Nat, RpA k X.K G L (List.replicate n vs).flatten (List.replicate n ds).flatten
  | 0 => .nil
  | n + 1 => by
    rw [List.replicate_succ, List.replicate_succ, List.flatten_cons, List.flatten_cons]
    exact r.append (rpA_rep r n)
theorem b_mul : BinD k X E (binaryOp .Mult) mulD := by
  refine ⟨_, OpR.or op_mul (OpR.or op_repT op_repT1), fun x y dx dy G H L μ Q rx ry w g => ?_⟩
  cases dx with
  | int i =>
    cases dy with
    | int j =>
      cases rx
      cases ry
      obtain ⟨hz, g⟩ := good_ite g
      exact .inl ⟨i, j, rfl, rfl, hz, Good.ret g w _ (.int _)⟩
    | _ => exact False.elim g
  | tup ds =>
    cases dy with
    | int j =>
      cases rx with
      | @tup a xs _ hs ha =>
        cases ry
        obtain ⟨⟨h1, h2, h3, h4⟩, g⟩ := good_ite g
        by_cases hj : j = 1
        · subst hj
          refine .inr (.inr ⟨a, xs, rfl, rfl, sqT_mono w.ext hs, ?_⟩)
          have e : (List.replicate (1 : Int).toNat ds).flatten = ds := by simp
          rw [e] at g
          exact Good.ret g w _ (.tup hs ha)
        · refine .inr (.inl ⟨a, j, xs, rfl, rfl, sqT_mono w.ext hs, fun e => ?_, by omega, h2, by rw [ha.len]; exact h3, fun p hp => ?_⟩)
          · subst e
            cases ha
            simp at h4
          · exact g _ _ _ (w.newS hp) (w.new hp) _ (.tup (SqT.of upd_same) (RpA.mono (w.newS (o := .tup (List.replicate j.toNat xs).flatten) hp).g (pre_refl L) _ _ (rpA_rep ha j.toNat)))
    | _ => exact False.elim g
  | _ => cases dy <;> exact False.elim g

/-! ### data as the library's own -/
mutual
def toPD : D → Option PyData
  | .non => some .none
  | .bl b => some (.bool b)
  | .int i => some (.int i)
  | .str s => some (.str s)
  | .lst ds => (toPDs ds).map .list
  | .tup ds => (toPDs ds).map .tuple
  | .loc _ => none
  | .obj _ _ => none
  | .cls _ => none
def toPDs : List D → Option (List PyData)
  | [] => some []
  | d :: ds => match toPD d, toPDs ds with
    | some x, some xs => some (x :: xs)
    | _, _ => none
end
theorem toPDs_cons {d : D} {ds : List D} {xs : List PyData} (h : toPDs (d :: ds) = some xs) : ∃ y ys, xs = y :: ys ∧ toPD d = some y ∧ toPDs ds = some ys := by
  rw [toPDs] at h
  cases e1 : toPD d with
  | none => rw [e1] at h; cases h
  | some y =>
    cases e2 : toPDs ds with
    | none => rw [e1, e2] at h; cases h
    | some ys =>
      rw [e1, e2] at h
      cases h
      exact ⟨y, ys, rfl, rfl, rfl⟩
mutual
theorem dp_of {G H : Hp} {L : Lam} (e : Same G H) : ∀ (d : D) (v : V) (x : PyData), Rp k X.K G L v d → toPD d = some x → Dp X.K H v x
  | .non, _, _, r, h => by cases r; simp only [toPD] at h; cases h; exact .non
  | .bl b, _, _, r, h => by cases r; simp only [toPD] at h; cases h; exact .bl b
  | .int i, _, _, r, h => by cases r; simp only [toPD] at h; cases h; exact .int i
  | .str i, _, _, r, h => by cases r; simp only [toPD] at h; cases h; exact .str i
  | .lst ds, _, _, r, h => by
    cases r with
    | lst hs ha =>
      simp only [toPD] at h
      cases e2 : toPDs ds with
      | none => rw [e2] at h; cases h
      | some ys =>
        rw [e2] at h
        cases h
        exact .lst (e.seq hs) (dpA_of e ds _ ys ha e2)
  | .tup ds, _, _, r, h => by
    cases r with
    | tup hs ha =>
      simp only [toPD] at h
      cases e2 : toPDs ds with
      | none => rw [e2] at h; cases h
      | some ys =>
        rw [e2] at h
        cases h
        exact .tup (sqT_mono e hs) (dpA_of e ds _ ys ha e2)
  | .loc _, _, _, r, h => by simp only [toPD] at h; cases h
  | .obj _ _, _, _, r, h => by simp only [toPD] at h; cases h
  | .cls _, _, _, r, h => by simp only [toPD] at h; cases h
theorem dpA_of {G H : Hp} {L : Lam} (e : Same G H) : ∀ (ds : List D) (vs : List V) (xs : List PyData), RpA k X.K G L vs ds → toPDs ds = some xs → DpAll X.K H vs xs
  | [], _, _, r, h => by cases r; simp only [toPDs] at h; cases h; exact .nil
  | d :: ds, _, _, r, h => by
    cases r with
    | cons h1 h2 =>
      obtain ⟨y, ys, rfl, e1, e2⟩ := toPDs_cons h
      exact .cons (dp_of e d _ y h1 e1) (dpA_of e ds _ ys h2 e2)
end
/-- with a mutable list's items at the top -/
def topPD (d : D) (m : Store) : Option PyData := match d with
  | .loc n => match m[n]? with
    | some (some (.lst ds)) => (toPDs ds).map .list
    | _ => none
  | d => toPD d
theorem dp_top {G H : Hp} {L : Lam} {μ : Store} (w : Wd k X.K G H L μ) {d : D} {v : V} {x : PyData} (r : Rp k X.K G L v d) (h : topPD d μ = some x) : Dp X.K H v x := by
  cases d with
  | loc n =>
    simp only [topPD] at h
    cases hm : μ[n]? with
    | none => rw [hm] at h; cases h
    | some o =>
      cases o with
      | none => rw [hm] at h; cases h
      | some c =>
        cases c with
        | ins _ _ => rw [hm] at h; cases h
        | lst ds =>
          rw [hm] at h
          obtain ⟨a, vs, rfl, hl, ga, hh, ra⟩ := w.look hm r
          simp only at h
          cases e2 : toPDs ds with
          | none => rw [e2] at h; cases h
          | some ys =>
            rw [e2] at h
            cases h
            exact .lst (SqL.of hh) (dpA_of w.ext ds _ ys ra e2)
  | _ => exact dp_of w.ext _ v x r h
def onPD (f : PyData → PyData → Bool) (x y : D) : M D := fun m => match topPD x m, topPD y m with
  | some a, some b => if (SeqAt.shaped a && SeqAt.shaped b) = true then .ok (.bl (f a b)) m else .bad
  | _, _ => .bad
def eqD : D → D → M D := onPD PyData.eqv
def neD : D → D → M D := onPD fun a b => !PyData.eqv a b
theorem onPD_good {f : PyData → PyData → Bool} {x y : D} {G H : Hp} {L : Lam} {μ : Store} {Q : VK} (w : Wd k X.K G H L μ) (g : Good k X.K E G H L (onPD f x y μ) (QV k X.K Q)) :
    ∃ a b, topPD x μ = some a ∧ topPD y μ = some b ∧ SeqAt.shaped a = true ∧ SeqAt.shaped b = true ∧ Q (.bl (f a b)) H := by
  unfold onPD at g
  cases e1 : topPD x μ with
  | none => rw [e1] at g; exact False.elim g
  | some a =>
    cases e2 : topPD y μ with
    | none => rw [e1, e2] at g; exact False.elim g
    | some b =>
      simp only [e1, e2] at g
      by_cases hc : (SeqAt.shaped a && SeqAt.shaped b) = true
      · rw [if_pos hc] at g
        obtain ⟨h1, h2⟩ := Bool.and_eq_true_iff.mp hc
        exact ⟨a, b, rfl, rfl, h1, h2, Good.okE g w _ (.bl _)⟩
      · rw [if_neg hc] at g
        exact False.elim g
theorem b_eq (hu : X.A.units + 64 < cLine) : BinD k X E (compareOp .Eq) eqD := by
  refine ⟨_, op_eqD hu, fun x y dx dy G H L μ Q rx ry w g => ?_⟩
  obtain ⟨a, b, e1, e2, h1, h2, q⟩ := onPD_good w g
  exact ⟨a, b, dp_top w rx e1, dp_top w ry e2, h1, h2, q⟩
theorem b_ne (hu : X.A.units + 64 < cLine) : BinD k X E (compareOp .NotEq) neD := by
  refine ⟨_, op_neD hu, fun x y dx dy G H L μ Q rx ry w g => ?_⟩
  obtain ⟨a, b, e1, e2, h1, h2, q⟩ := onPD_good w g
  exact ⟨a, b, dp_top w rx e1, dp_top w ry e2, h1, h2, q⟩
/-! order -/
def intsD : List D → Option (List Int)
  | [] => some []
  | .int i :: ds => (intsD ds).map (i :: ·)
  | _ :: _ => none
theorem intsD_of {G : Hp} {L : Lam} : ∀ {ds : List D} {vs : List V} {ns : List Int}, RpA k X.K G L vs ds → intsD ds = some ns → vs = ns.map V.int
  | [], _, _, r, h => by cases r; cases h; rfl
  | d :: ds, _, _, r, h => by
    cases d with
    | int i =>
      simp only [intsD] at h
      cases e : intsD ds with
      | none => rw [e] at h; cases h
      | some ms =>
        rw [e] at h
        cases h
        cases r with
        | cons h1 h2 =>
          cases h1
          rw [intsD_of h2 e]
          rfl
    | _ => cases h
def ltD (x y : D) : M D := match x, y with
  | .int i, .int j => pure (.bl (decide (i < j)))
  | .tup a, .tup b => match intsD a, intsD b with
    | some ns, some ms => pure (.bl (HT.lexLt ns ms))
    | _, _ => M.bad
  | _, _ => M.bad
def leD : D → D → M D := gI0 fun i j => .bl (decide (i ≤ j))
def gtD : D → D → M D := gI0 fun i j => .bl (decide (j < i))
def geD : D → D → M D := gI0 fun i j => .bl (decide (j ≤ i))
theorem b_lt (hu : X.A.units < cLine) : BinD k X E (compareOp .Lt) ltD := by
  refine ⟨_, OpR.or op_lt (op_ltT hu), fun x y dx dy G H L μ Q rx ry w g => ?_⟩
  cases dx with
  | int i =>
    cases dy with
    | int j => cases rx; cases ry; exact .inl ⟨i, j, rfl, rfl, Good.ret g w _ (.bl _)⟩
    | _ => exact False.elim g
  | tup a =>
    cases dy with
    | tup b =>
      have g' : Good k X.K E G H L ((match intsD a, intsD b with | some ns, some ms => (pure (.bl (HT.lexLt ns ms)) : M D) | _, _ => M.bad) μ) (QV k X.K Q) := g
      cases e1 : intsD a with
      | none => rw [e1] at g'; exact False.elim g'
      | some ns =>
        cases e2 : intsD b with
        | none => rw [e1, e2] at g'; exact False.elim g'
        | some ms =>
          rw [e1, e2] at g'
          cases rx with
          | tup hs ha =>
            cases ry with
            | tup ht hb =>
              have z1 := intsD_of ha e1
              have z2 := intsD_of hb e2
              subst z1 z2
              exact .inr ⟨_, _, ns, ms, rfl, rfl, sqT_mono w.ext hs, sqT_mono w.ext ht, Good.ret g' w _ (.bl _)⟩
    | _ => exact False.elim g
  | _ => cases dy <;> exact False.elim g
theorem b_le : BinD k X E (compareOp .LtE) leD := ⟨_, op_le, opD_I0 fun _ _ _ _ => .bl _⟩
theorem b_gt : BinD k X E (compareOp .Gt) gtD := ⟨_, op_gt, opD_I0 fun _ _ _ _ => .bl _⟩
theorem b_ge : BinD k X E (compareOp .GtE) geD := ⟨_, op_ge, opD_I0 fun _ _ _ _ => .bl _⟩
/-! is, is not -/
def isD (neg : Bool) (x y : D) : M D := match x, y with
  | .bl a, .bl b => pure (.bl (if neg then !decide (a = b) else decide (a = b)))
  | x, .non => pure (.bl (match x with | .non => !neg | _ => neg))
  | _, _ => M.bad
theorem rp_non {G : Hp} {L : Lam} {x : V} {d : D} (r : Rp k X.K G L x d) : decide (x = V.non) = (match d with | .non => true | _ => false) := by
  cases r <;> simp
theorem isD_of {neg : Bool} {x y : V} {dx dy : D} {G H : Hp} {L : Lam} {μ : Store} {Q : VK} (rx : Rp k X.K G L x dx) (ry : Rp k X.K G L y dy) (w : Wd k X.K G H L μ) (g : Good k X.K E G H L (isD neg dx dy μ) (QV k X.K Q)) :
    (y = .non ∧ Q (.bl (if neg then !decide (x = .non) else decide (x = .non))) H) ∨ ∃ a b, x = .bl a ∧ y = .bl b ∧ Q (.bl (if neg then !decide (a = b) else decide (a = b))) H := by
  cases dy with
  | non =>
    cases ry
    refine .inl ⟨rfl, ?_⟩
    rw [rp_non rx]
    cases dx <;> (cases neg <;> exact Good.ret g w _ (.bl _))
  | bl b =>
    cases dx with
    | bl a =>
      cases rx
      cases ry
      exact .inr ⟨a, b, rfl, rfl, Good.ret g w _ (.bl _)⟩
    | _ => exact False.elim g
  | _ => cases dx <;> exact False.elim g
theorem b_is : BinD k X E (compareOp .Is) (isD false) := ⟨_, OpR.or op_isN op_is_bl, fun x y dx dy G H L μ Q rx ry w g => isD_of (neg := false) rx ry w g⟩
theorem b_isnot : BinD k X E (compareOp .IsNot) (isD true) := ⟨_, OpR.or op_notN op_isnot_bl, fun x y dx dy G H L μ Q rx ry w g => isD_of (neg := true) rx ry w g⟩
/-! in, not in: a list of any data, a tuple of flat ones -/
def flatD : D → Bool
  | .non => true
  | .bl _ => true
  | .int _ => true
  | .str _ => true
  | _ => false
def eqFl : D → D → Bool
  | .non, .non => true
  | .bl a, .bl b => a == b
  | .bl a, .int b => (if a then 1 else 0) == b
  | .int a, .bl b => a == (if b then 1 else 0)
  | .int a, .int b => a == b
  | .str a, .str b => a == b
  | _, _ => false
def pdItems : PyData → List PyData
  | .list xs => xs
  | .tuple xs => xs
  | _ => []
def inD (neg : Bool) (x y : D) : M D := fun m => match y with
  | .tup ds => if (flatD x && ds.all flatD) = true then .ok (.bl (if neg then !(ds.any fun z => eqFl z x) else ds.any fun z => eqFl z x)) m else .bad
  | y => match topPD x m, topPD y m with
    | some a, some (.list bs) => if (SeqAt.shaped a && SeqAt.shaped (.list bs)) = true then .ok (.bl (if neg then !(bs.any fun z => PyData.eqv z a) else bs.any fun z => PyData.eqv z a)) m else .bad
    | _, _ => .bad
theorem flat_of {G : Hp} {L : Lam} {x : V} {d : D} (r : Rp k X.K G L x d) (h : flatD d = true) : flatV x = true := by
  cases r <;> first | rfl | cases h
theorem eqFl_of {G : Hp} {L : Lam} {x y : V} {d e : D} (r : Rp k X.K G L x d) (q : Rp k X.K G L y e) (h : flatD d = true) (h' : flatD e = true) : eqV x y = eqFl d e := by
  cases r <;> first | (cases q <;> first | rfl | (exact absurd h' (by simp [flatD]))) | (exact absurd h (by simp [flatD]))
theorem flatA_of {G : Hp} {L : Lam} {y : V} {e : D} (q : Rp k X.K G L y e) (h' : flatD e = true) : ∀ {vs : List V} {ds : List D}, RpA k X.K G L vs ds → ds.all flatD = true → vs.all flatV = true ∧ inV y vs = ds.any fun z => eqFl z e
  | _, [], r, _ => by cases r; exact ⟨rfl, rfl⟩
  | _, d :: ds, r, h => by
    cases r with
    | cons h1 h2 =>
      rw [List.all_cons, Bool.and_eq_true] at h
      obtain ⟨i1, i2⟩ := flatA_of q h' h2 h.2
      refine ⟨by rw [List.all_cons, flat_of h1 h.1, i1]; rfl, ?_⟩
      unfold inV at i2 ⊢
      rw [List.any_cons, List.any_cons, i2, eqFl_of h1 q h.1 h']
theorem inD_of {neg : Bool} {x y : V} {dx dy : D} {G H : Hp} {L : Lam} {μ : Store} {Q : VK} (rx : Rp k X.K G L x dx) (ry : Rp k X.K G L y dy) (w : Wd k X.K G H L μ) (g : Good k X.K E G H L (inD neg dx dy μ) (QV k X.K Q)) :
    rIn X.K neg x y H Q ∨ ∃ d ds, Dp X.K H x d ∧ Dp X.K H y (.list ds) ∧ SeqAt.shaped d = true ∧ SeqAt.shaped (.list ds) = true ∧ Q (.bl (if neg then !(ds.any fun z => PyData.eqv z d) else ds.any fun z => PyData.eqv z d)) H := by
  have two : Good k X.K E G H L (match topPD dx μ, topPD dy μ with
    | some a, some (.list bs) => if (SeqAt.shaped a && SeqAt.shaped (.list bs)) = true then .ok (.bl (if neg then !(bs.any fun z => PyData.eqv z a) else bs.any fun z => PyData.eqv z a)) μ else .bad
    | _, _ => .bad) (QV k X.K Q) → ∃ d ds, Dp X.K H x d ∧ Dp X.K H y (.list ds) ∧ SeqAt.shaped d = true ∧ SeqAt.shaped (.list ds) = true ∧ Q (.bl (if neg then !(ds.any fun z => PyData.eqv z d) else ds.any fun z => PyData.eqv z d)) H := fun g => by
    cases e1 : topPD dx μ with
    | none => rw [e1] at g; exact False.elim g
    | some a =>
      cases e2 : topPD dy μ with
      | none => rw [e1, e2] at g; exact False.elim g
      | some b =>
        cases b with
        | list bs =>
          simp only [e1, e2] at g
          by_cases hc : (SeqAt.shaped a && SeqAt.shaped (.list bs)) = true
          · rw [if_pos hc] at g
            obtain ⟨h1, h2⟩ := Bool.and_eq_true_iff.mp hc
            exact ⟨a, bs, dp_top w rx e1, dp_top w ry e2, h1, h2, Good.okE g w _ (.bl _)⟩
          · rw [if_neg hc] at g
            exact False.elim g
        | _ => rw [e1, e2] at g; exact False.elim g
  cases dy with
  | tup ds =>
    simp only [inD] at g
    by_cases hc : (flatD dx && ds.all flatD) = true
    · rw [if_pos hc] at g
      obtain ⟨h1, h2⟩ := Bool.and_eq_true_iff.mp hc
      cases ry with
      | tup hs ha =>
        obtain ⟨i1, i2⟩ := flatA_of rx h1 ha h2
        refine .inl ⟨_, _, rfl, .inr (sqT_mono w.ext hs), flat_of rx h1, i1, ?_⟩
        rw [i2]
        exact Good.okE g w _ (.bl _)
    · rw [if_neg hc] at g
      exact False.elim g
  | _ => exact .inr (two g)
theorem b_in (hu : X.A.units + 65 < cLine) : BinD k X E (compareOp .In) (inD false) := ⟨_, OpR.or op_in_seq (op_inD hu), fun x y dx dy G H L μ Q rx ry w g => inD_of (neg := false) rx ry w g⟩
theorem b_notin (hu : X.A.units + 65 < cLine) : BinD k X E (compareOp .NotIn) (inD true) := ⟨_, OpR.or op_notIn_seq (op_notInD hu), fun x y dx dy G H L μ Q rx ry w g => inD_of (neg := true) rx ry w g⟩
end
end DL

namespace DL
open PySem L2 PyProof.Rows

/-! ### built-ins -/
def lenD : List D → M D
  | [.str x] => if x.length ≤ 100000 then pure (.int x.length) else M.bad
  | [d] => do let ds ← seqD d; pure (.int ds.length)
  | _ => M.bad
def tupleD : List D → M D
  | [.tup ds] => pure (.tup ds)
  | [d] => do let ds ← seqD d; mkT ds
  | _ => M.bad
def listD : List D → M D
  | [d] => do let ds ← seqD d; mkL ds
  | _ => M.bad
def listDM : List D → M D
  | [d] => do let ds ← seqD d; newM ds
  | _ => M.bad
def intD : List D → M D
  | [.int i] => pure (.int i)
  | [.bl b] => pure (.int (if b then 1 else 0))
  | _ => M.bad
def maxD : List D → M D
  | [.int i, .int j] => pure (.int (if j > i then j else i))
  | _ => M.bad
def minD : List D → M D
  | [.int i, .int j] => pure (.int (if j < i then j else i))
  | _ => M.bad
def sumD : List D → M D
  | [.tup _] => M.bad
  | [d] => do
    let ds ← seqD d
    match intsD ds with
      | some ns => pure (.int ns.sum)
      | none => M.bad
  | _ => M.bad
/-- truth of a flat thing -/
def truF : D → Option Bool
  | .non => some false
  | .bl b => some b
  | .int i => some (i != 0)
  | _ => none
def truFs : List D → Option (List Bool)
  | [] => some []
  | d :: ds => match truF d, truFs ds with
    | some b, some bs => some (b :: bs)
    | _, _ => none
def allD : List D → M D
  | [d] => do
    let ds ← seqD d
    match truFs ds with
      | some bs => pure (.bl (bs.all id))
      | none => M.bad
  | _ => M.bad
def anyD : List D → M D
  | [d] => do
    let ds ← seqD d
    match truFs ds with
      | some bs => pure (.bl (bs.any id))
      | none => M.bad
  | _ => M.bad

section
variable {k : Kx} {X : Cx} {E : XK}
theorem CallR.or2 {f : Value} {r r' : List V → Hp → VK → Prop} (h : CallR X f r) (h' : CallR X f r') : CallR X f (fun xs H Q => r xs H Q ∨ r' xs H Q) := CallR.or h h'
theorem one_of {G H : Hp} {L : Lam} {xs : List V} {d : D} (r : RpA k X.K G L xs [d]) : ∃ v, xs = [v] ∧ Rp k X.K G L v d := by
  cases r with
  | cons h1 h2 => cases h2; exact ⟨_, rfl, h1⟩
theorem two_of {G H : Hp} {L : Lam} {xs : List V} {d e : D} (r : RpA k X.K G L xs [d, e]) : ∃ v u, xs = [v, u] ∧ Rp k X.K G L v d ∧ Rp k X.K G L u e := by
  cases r with
  | cons h1 h2 =>
    cases h2 with
    | cons h3 h4 => cases h4; exact ⟨_, _, rfl, h1, h3⟩
theorem f_len : FunD k X E (.builtin "len") lenD := by
  refine ⟨_, CallR.or call_len_seq call_len_str, fun xs ds G H L μ Q r w g => ?_⟩
  match ds, r, g with
  | [], _, g => exact False.elim g
  | [d], r, g =>
    obtain ⟨v, rfl, r'⟩ := one_of (H := H) r
    replace r := r'
    have sq : Good k X.K E G H L ((do let ds ← seqD d; (pure (D.int ds.length) : M D)) μ) (QV k X.K Q) → ∃ p ys, [v] = [V.ref p] ∧ (SqL X.K H p ys ∨ SqT X.K H p ys) ∧ Q (.int ys.length) H := fun g => by
      obtain ⟨a, vs, ds, rfl, ra, hs, g⟩ := seq_of r w g
      refine ⟨a, vs, rfl, ?_, ?_⟩
      · rcases hs with ⟨hs, _⟩ | ⟨hs, _⟩
        · exact .inl hs
        · exact .inr hs
      · rw [ra.len]
        exact Good.ret g w _ (.int _)
    cases d with
    | str x =>
      cases r
      obtain ⟨hz, g⟩ := good_ite g
      exact .inr ⟨x, rfl, size_of hz, Good.ret g w _ (.int _)⟩
    | _ => exact .inl (sq g)
  | x :: _ :: _, _, g => cases x <;> exact False.elim g
theorem f_tuple : FunD k X E (.type "tuple") tupleD := by
  refine ⟨_, call_tuple_of, fun xs ds G H L μ Q r w g => ?_⟩
  match ds, r, g with
  | [], _, g => exact False.elim g
  | [d], r, g =>
    obtain ⟨v, rfl, r'⟩ := one_of (H := H) r
    replace r := r'
    have sq : Good k X.K E G H L ((do let ds ← seqD d; mkT ds) μ) (QV k X.K Q) → (∀ t, d ≠ .tup t) → ∃ p ys, [v] = [V.ref p] ∧ ((SqL X.K H p ys ∧ ∀ l, H l = none → Q (.ref l) (upd H l (.tup ys))) ∨ (SqT X.K H p ys ∧ Q (.ref p) H)) := fun g nt => by
      obtain ⟨a, vs, ds, rfl, ra, hs, g⟩ := seq_of r w g
      rcases hs with ⟨hs, _⟩ | ⟨hs, e⟩
      · exact ⟨a, vs, rfl, .inl ⟨hs, (good_mkT ra w g).2⟩⟩
      · exact absurd e (nt ds)
    cases d with
    | tup ds =>
      cases r with
      | tup hs ha => exact ⟨_, _, rfl, .inr ⟨sqT_mono w.ext hs, Good.ret g w _ (.tup hs ha)⟩⟩
    | _ => exact sq g fun _ z => nomatch z
  | x :: _ :: _, _, g => cases x <;> exact False.elim g
theorem f_list : FunD k X E (.type "list") listD := by
  refine ⟨_, call_list_of, fun xs ds G H L μ Q r w g => ?_⟩
  match ds, r, g with
  | [], _, g => exact False.elim g
  | [d], r, g =>
    obtain ⟨v, rfl, r'⟩ := one_of (H := H) r
    replace r := r'
    obtain ⟨a, vs, ds, rfl, ra, hs, g⟩ := seq_of r w g
    refine ⟨a, vs, rfl, ?_, (good_mkL ra w g).2⟩
    rcases hs with ⟨hs, _⟩ | ⟨hs, _⟩
    · exact .inl hs
    · exact .inr hs
  | _ :: _ :: _, _, g => exact False.elim g
theorem f_listM : FunD k X E (.type "list") listDM := by
  refine ⟨_, call_list_of, fun xs ds G H L μ Q r w g => ?_⟩
  match ds, r, g with
  | [], _, g => exact False.elim g
  | [d], r, g =>
    obtain ⟨v, rfl, r'⟩ := one_of (H := H) r
    replace r := r'
    obtain ⟨a, vs, ds, rfl, ra, hs, g⟩ := seq_of r w g
    refine ⟨a, vs, rfl, ?_, (good_newM ra w g).2⟩
    rcases hs with ⟨hs, _⟩ | ⟨hs, _⟩
    · exact .inl hs
    · exact .inr hs
  | _ :: _ :: _, _, g => exact False.elim g
theorem f_int : FunD k X E (.type "int") intD := by
  refine ⟨_, call_int1, fun xs ds G H L μ Q r w g => ?_⟩
  match ds, r, g with
  | [], _, g => exact False.elim g
  | [d], r, g =>
    obtain ⟨v, rfl, r'⟩ := one_of (H := H) r
    replace r := r'
    cases d with
    | int i => cases r; exact .inl ⟨i, rfl, Good.ret g w _ (.int _)⟩
    | bl i => cases r; exact .inr ⟨i, rfl, Good.ret g w _ (.int _)⟩
    | _ => exact False.elim g
  | x :: _ :: _, _, g => cases x <;> exact False.elim g
theorem f_max (hc : X.calm = true) : FunD k X E (.builtin "max") maxD := by
  refine ⟨_, call_max2 hc, fun xs ds G H L μ Q r w g => ?_⟩
  match ds, r, g with
  | [], _, g => exact False.elim g
  | [x], _, g => cases x <;> exact False.elim g
  | [x, y], r, g =>
    obtain ⟨v, u, rfl, r1, r2⟩ := two_of (H := H) r
    cases x with
    | int i =>
      cases y with
      | int j => cases r1; cases r2; exact ⟨i, j, rfl, Good.ret g w _ (.int _)⟩
      | _ => exact False.elim g
    | _ => exact False.elim g
  | x :: y :: _ :: _, _, g => cases x <;> (cases y <;> exact False.elim g)
theorem f_min (hc : X.calm = true) : FunD k X E (.builtin "min") minD := by
  refine ⟨_, call_min2 hc, fun xs ds G H L μ Q r w g => ?_⟩
  match ds, r, g with
  | [], _, g => exact False.elim g
  | [x], _, g => cases x <;> exact False.elim g
  | [x, y], r, g =>
    obtain ⟨v, u, rfl, r1, r2⟩ := two_of (H := H) r
    cases x with
    | int i =>
      cases y with
      | int j => cases r1; cases r2; exact ⟨i, j, rfl, Good.ret g w _ (.int _)⟩
      | _ => exact False.elim g
    | _ => exact False.elim g
  | x :: y :: _ :: _, _, g => cases x <;> (cases y <;> exact False.elim g)
theorem f_sum (hc : X.calm = true) : FunD k X E (.builtin "sum") sumD := by
  refine ⟨_, cr_sum hc, fun xs ds G H L μ Q r w g => ?_⟩
  match ds, r, g with
  | [], _, g => exact False.elim g
  | [d], r, g =>
    obtain ⟨v, rfl, r'⟩ := one_of (H := H) r
    replace r := r'
    have sq : Good k X.K E G H L ((do let ds ← seqD d; match intsD ds with | some ns => (pure (.int ns.sum) : M D) | none => M.bad) μ) (QV k X.K Q) → (∀ t, d ≠ .tup t) → rSum X.K [v] H Q := fun g nt => by
      obtain ⟨a, vs, ds, rfl, ra, hs, g⟩ := seq_of (f := fun ds => match intsD ds with | some ns => (pure (.int ns.sum) : M D) | none => M.bad) r w g
      rcases hs with ⟨hs, _⟩ | ⟨hs, e⟩
      · cases e : intsD ds with
        | none => simp only [e] at g; exact False.elim g
        | some ns =>
          simp only [e] at g
          rw [intsD_of ra e] at hs
          exact ⟨a, ns, rfl, hs, Good.ret g w _ (.int _)⟩
      · exact absurd e (nt ds)
    cases d with
    | tup ds => exact False.elim g
    | _ => exact sq g fun _ z => nomatch z
  | x :: _ :: _, _, g => cases x <;> exact False.elim g
/-! any, all over a list or tuple of flat things -/
def truV : V → Option Bool
  | .non => some false
  | .bl b => some b
  | .int i => some (i != 0)
  | _ => none
def TruL (vs : List V) (bs : List Bool) : Prop := vs.map truV = bs.map some
theorem truL_of {G : Hp} {L : Lam} : ∀ {vs : List V} {ds : List D} {bs : List Bool}, RpA k X.K G L vs ds → truFs ds = some bs → TruL vs bs
  | _, [], bs, r, h => by cases r; cases h; rfl
  | _, d :: ds, bs, r, h => by
    cases r with
    | @cons v vs _ _ h1 h2 =>
      rw [truFs] at h
      cases e1 : truF d with
      | none => rw [e1] at h; cases h
      | some b =>
        cases e2 : truFs ds with
        | none => rw [e1, e2] at h; cases h
        | some bs' =>
          rw [e1, e2] at h
          cases h
          have i := truL_of h2 e2
          unfold TruL at i ⊢
          rw [List.map_cons, List.map_cons, i]
          have : truV v = some b := by
            cases h1 <;> first | exact e1 | cases e1
          rw [this]
theorem truth_flat {prog : Program} {w : World} {A : Around} {vs : List V} {bs : List Bool} {its : List Value} (h : TruL vs bs) (r : Vals vs its) :
    TruthOf prog w A (fun i v => its.toArray[i]? = some v) (fun i => bs.getD i false) := fun i v s Q E' hv hq => by
  have hv' : its[i]? = some v := by simpa using hv
  have hi : i < vs.length := by
    have := (List.getElem?_eq_some_iff.mp hv').1
    rw [r.length]
    exact this
  obtain ⟨u, e1, e2⟩ := r.get (List.getElem?_eq_getElem hi)
  rw [hv'] at e1
  cases e1
  have hb : (vs.map truV)[i]? = (bs.map some)[i]? := by rw [h]
  rw [List.getElem?_map, List.getElem?_map, List.getElem?_eq_getElem hi] at hb
  cases eb : bs[i]? with
  | none => rw [eb] at hb; cases hb
  | some b =>
    rw [eb] at hb
    have ht : truV vs[i] = some b := by simpa using hb
    have hg : bs.getD i false = b := by rw [List.getD_eq_getElem?_getD, eb] <;> rfl
    have hq' : Q (bs.getD i false) s := hq
    rw [hg] at hq'
    cases ev : vs[i] with
    | non =>
      rw [ev] at e2 ht
      cases e2
      cases ht
      exact truthy_none hq'
    | bl c =>
      rw [ev] at e2 ht
      cases e2
      cases ht
      exact wpAny_truthy_bool hq'
    | int c =>
      rw [ev] at e2 ht
      obtain ⟨t, rfl⟩ := e2
      cases ht
      exact PySem.P.truthy_int hq'
    | _ => rw [ev] at ht; cases ht
def rAnyS (K : PySem.W.Frag) (f : List Bool → Bool) : List V → Hp → VK → Prop := fun xs H Q => ∃ (a : Addr) (vs : List V) (bs : List Bool), xs = [V.ref a] ∧ (SqL K H a vs ∨ SqT K H a vs) ∧ TruL vs bs ∧ Q (.bl (f bs)) H
theorem truL_len {vs : List V} {bs : List Bool} (h : TruL vs bs) : vs.length = bs.length := by
  have := congrArg List.length h
  simpa using this
theorem iter_anyT {prog : Program} {w : World} {A : Around} {E : Value → Shared → Prop} {s : Shared} {l : Addr} {items : Array Value} {Q : Value → Shared → Prop} (hl : s.heap.IsTuple l items)
    (h : ∀ s₂ : Shared, s₂ = { s with heap := s.heap.push { cls := .type "tuple_iterator", data := .fields #[.ref l, .int 0 0] } } →
      (s₂.heap.IsTupleIter s.heap.objs.size l 0 ∧ s₂.heap.IsTuple l items) → l ≠ s.heap.objs.size → Q (.ref s.heap.objs.size) s₂) : wpAny (model prog w) A (pyIter (.ref l)) Q E s := by
  have hlt : l < s.heap.objs.size := by obtain ⟨_, e, _⟩ := hl; exact Heap.lt_size e
  refine wpAny_pyIter_tuple hl (h _ rfl ⟨⟨_, Heap.get?_push_size _ rfl, rfl, rfl⟩, ?_⟩ (Nat.ne_of_lt hlt))
  obtain ⟨o, e, c⟩ := hl
  exact ⟨o, Heap.get?_push_of_some _ e, c⟩
theorem cr_anyS (hc : X.calm = true) : CallR X (.builtin "any") (rAnyS X.K fun bs => bs.any id) := by
  intro pins s σ H vs us Q I r h
  obtain ⟨a, xs, bs, rfl, hs, ht, q⟩ := h
  rw [Vals.ref1 r]
  have hn := truL_len ht
  rcases hs with hs | hs
  · obtain ⟨its, rv, hl, _⟩ := I.list hs
    have hln := rv.length
    refine call_any_walk (iter_any hl.isList fun s₂ e2 st hne => ?_)
    subst e2
    refine ⟨_, _, _, _, _, _, _, rfl, Walks.list (A := X.A.in1) (I.ok.hd hc) _ a hne its.toArray, st, truth_flat ht rv, fun h' tk hk => ?_⟩
    refine ⟨.bl _, H, I.kept fun b o eo => hk b o (fun hmem => ?_) (Heap.get?_push_of_some _ eo), ?_, q⟩
    · rcases List.mem_cons.mp hmem with e1 | hmem
      · exact absurd (e1 ▸ Heap.lt_size eo) (Nat.lt_irrefl _)
      · cases hmem
    · show Value.bool _ = Value.bool _
      show Value.bool _ = Value.bool (bs.any id)
      rw [← L2.any_range, List.size_toArray, ← hln, hn]
  · obtain ⟨its, rv, hl, _⟩ := I.tuple hs
    have hln := rv.length
    refine call_any_walk (iter_anyT hl fun s₂ e2 st hne => ?_)
    subst e2
    refine ⟨_, _, _, _, _, _, _, rfl, Walks.tuple (A := X.A.in1) (I.ok.hd hc) _ a hne its.toArray, st, truth_flat ht rv, fun h' tk hk => ?_⟩
    refine ⟨.bl _, H, I.kept fun b o eo => hk b o (fun hmem => ?_) (Heap.get?_push_of_some _ eo), ?_, q⟩
    · rcases List.mem_cons.mp hmem with e1 | hmem
      · exact absurd (e1 ▸ Heap.lt_size eo) (Nat.lt_irrefl _)
      · cases hmem
    · show Value.bool _ = Value.bool _
      show Value.bool _ = Value.bool (bs.any id)
      rw [← L2.any_range, List.size_toArray, ← hln, hn]
theorem cr_allS (hc : X.calm = true) : CallR X (.builtin "all") (rAnyS X.K fun bs => bs.all id) := by
  intro pins s σ H vs us Q I r h
  obtain ⟨a, xs, bs, rfl, hs, ht, q⟩ := h
  rw [Vals.ref1 r]
  have hn := truL_len ht
  rcases hs with hs | hs
  · obtain ⟨its, rv, hl, _⟩ := I.list hs
    have hln := rv.length
    refine call_all_walk (iter_any hl.isList fun s₂ e2 st hne => ?_)
    subst e2
    refine ⟨_, _, _, _, _, _, _, rfl, Walks.list (A := X.A.in1) (I.ok.hd hc) _ a hne its.toArray, st, truth_flat ht rv, fun h' tk hk => ?_⟩
    refine ⟨.bl _, H, I.kept fun b o eo => hk b o (fun hmem => ?_) (Heap.get?_push_of_some _ eo), ?_, q⟩
    · rcases List.mem_cons.mp hmem with e1 | hmem
      · exact absurd (e1 ▸ Heap.lt_size eo) (Nat.lt_irrefl _)
      · cases hmem
    · show Value.bool _ = Value.bool _
      show Value.bool _ = Value.bool (bs.all id)
      rw [← L2.all_range, List.size_toArray, ← hln, hn]
  · obtain ⟨its, rv, hl, _⟩ := I.tuple hs
    have hln := rv.length
    refine call_all_walk (iter_anyT hl fun s₂ e2 st hne => ?_)
    subst e2
    refine ⟨_, _, _, _, _, _, _, rfl, Walks.tuple (A := X.A.in1) (I.ok.hd hc) _ a hne its.toArray, st, truth_flat ht rv, fun h' tk hk => ?_⟩
    refine ⟨.bl _, H, I.kept fun b o eo => hk b o (fun hmem => ?_) (Heap.get?_push_of_some _ eo), ?_, q⟩
    · rcases List.mem_cons.mp hmem with e1 | hmem
      · exact absurd (e1 ▸ Heap.lt_size eo) (Nat.lt_irrefl _)
      · cases hmem
    · show Value.bool _ = Value.bool _
      show Value.bool _ = Value.bool (bs.all id)
      rw [← L2.all_range, List.size_toArray, ← hln, hn]
theorem clD_any {f : List Bool → Bool} {G H : Hp} {L : Lam} {μ : Store} {Q : VK} {xs : List V} {d : D} (r : RpA k X.K G L xs [d]) (w : Wd k X.K G H L μ)
    (g : Good k X.K E G H L ((do let ds ← seqD d; match truFs ds with | some bs => (pure (.bl (f bs)) : M D) | none => M.bad) μ) (QV k X.K Q)) : rAnyS X.K f xs H Q := by
  obtain ⟨v, rfl, r'⟩ := one_of (H := H) r
  replace r := r'
  obtain ⟨a, vs, ds, rfl, ra, hs, g⟩ := seq_of (f := fun ds => match truFs ds with | some bs => (pure (.bl (f bs)) : M D) | none => M.bad) r w g
  cases e : truFs ds with
  | none => simp only [e] at g; exact False.elim g
  | some bs =>
    simp only [e] at g
    refine ⟨a, vs, bs, rfl, ?_, truL_of ra e, Good.ret g w _ (.bl _)⟩
    rcases hs with ⟨hs, _⟩ | ⟨hs, _⟩
    · exact .inl hs
    · exact .inr hs
theorem f_any (hc : X.calm = true) : FunD k X E (.builtin "any") anyD := by
  refine ⟨_, cr_anyS hc, fun xs ds G H L μ Q r w g => ?_⟩
  match ds, r, g with
  | [], _, g => exact False.elim g
  | [d], r, g => exact clD_any (f := fun bs => bs.any id) r w g
  | _ :: _ :: _, _, g => exact False.elim g
theorem f_all (hc : X.calm = true) : FunD k X E (.builtin "all") allD := by
  refine ⟨_, cr_allS hc, fun xs ds G H L μ Q r w g => ?_⟩
  match ds, r, g with
  | [], _, g => exact False.elim g
  | [d], r, g => exact clD_any (f := fun bs => bs.all id) r w g
  | _ :: _ :: _, _, g => exact False.elim g

/-! ### subscripts -/
def ixD (x y : D) : M D := match y with
  | .int i => do
    let ds ← seqD x
    match atI ds i with
      | some d => pure d
      | none => M.bad
  | _ => M.bad
theorem atI_of {G : Hp} {L : Lam} {vs : List V} {ds : List D} {i : Int} {d : D} (r : RpA k X.K G L vs ds) (h : atI ds i = some d) : ∃ v, atI vs i = some v ∧ Rp k X.K G L v d := by
  unfold atI at h ⊢
  rw [r.len]
  cases e : ixN ds.length i with
  | none => rw [e] at h; cases h
  | some j =>
    rw [e] at h
    exact r.get h
theorem j_ix {a b : Expr} {ma mb : DEnv → M D} {pos : Pos} (ha : JE k X E a ma) (hb : JE k X E b mb) (hs : PlainIx b) : JE k X E (.Subscript a b pos) (eOp ixD ma mb) := by
  refine PE.imp (pe_ix ix_seq ha hb hs) fun s H Q h => dE_op (fun x y dx dy G H L μ Q rx ry w g => ?_) h
  cases dy with
  | int i =>
    cases ry
    obtain ⟨a, vs, ds, rfl, ra, hs, g⟩ := seq_of (f := fun ds => match atI ds i with | some d => (pure d : M D) | none => M.bad) rx w g
    cases e : atI ds i with
    | none => simp only [e] at g; exact False.elim g
    | some d =>
      simp only [e] at g
      obtain ⟨v, hv, rv⟩ := atI_of ra e
      rcases hs with ⟨hs, _⟩ | ⟨hs, _⟩
      · exact .inl ⟨a, vs, i, v, rfl, rfl, hs, hv, Good.ret g w _ rv⟩
      · exact .inr (.inl ⟨a, vs, i, v, rfl, rfl, hs, hv, Good.ret g w _ rv⟩)
  | _ => exact False.elim g
end
end DL

namespace DL
open PySem L2 PyProof.Rows

/-! ### deciding data -/
mutual
def D.dec : (a b : D) → Decidable (a = b)
  | .non, b => match b with
    | .non => Decidable.isTrue rfl
    | .bl _ => Decidable.isFalse nofun | .int _ => Decidable.isFalse nofun | .str _ => Decidable.isFalse nofun | .lst _ => Decidable.isFalse nofun | .tup _ => Decidable.isFalse nofun | .loc _ => Decidable.isFalse nofun | .obj _ _ => Decidable.isFalse nofun | .cls _ => Decidable.isFalse nofun
  | .bl x, b => match b with
    | .bl y => if h : x = y then Decidable.isTrue (by rw [h]) else Decidable.isFalse (by intro z; cases z; exact h rfl)
    | .non => Decidable.isFalse nofun | .int _ => Decidable.isFalse nofun | .str _ => Decidable.isFalse nofun | .lst _ => Decidable.isFalse nofun | .tup _ => Decidable.isFalse nofun | .loc _ => Decidable.isFalse nofun | .obj _ _ => Decidable.isFalse nofun | .cls _ => Decidable.isFalse nofun
  | .int x, b => match b with
    | .int y => if h : x = y then Decidable.isTrue (by rw [h]) else Decidable.isFalse (by intro z; cases z; exact h rfl)
    | .non => Decidable.isFalse nofun | .bl _ => Decidable.isFalse nofun | .str _ => Decidable.isFalse nofun | .lst _ => Decidable.isFalse nofun | .tup _ => Decidable.isFalse nofun | .loc _ => Decidable.isFalse nofun | .obj _ _ => Decidable.isFalse nofun | .cls _ => Decidable.isFalse nofun
  | .str x, b => match b with
    | .str y => if h : x = y then Decidable.isTrue (by rw [h]) else Decidable.isFalse (by intro z; cases z; exact h rfl)
    | .non => Decidable.isFalse nofun | .bl _ => Decidable.isFalse nofun | .int _ => Decidable.isFalse nofun | .lst _ => Decidable.isFalse nofun | .tup _ => Decidable.isFalse nofun | .loc _ => Decidable.isFalse nofun | .obj _ _ => Decidable.isFalse nofun | .cls _ => Decidable.isFalse nofun
  | .lst x, b => match b with
    | .lst y => match D.decL x y with
      | Decidable.isTrue h => Decidable.isTrue (by rw [h])
      | Decidable.isFalse h => Decidable.isFalse (by intro z; cases z; exact h rfl)
    | .non => Decidable.isFalse nofun | .bl _ => Decidable.isFalse nofun | .int _ => Decidable.isFalse nofun | .str _ => Decidable.isFalse nofun | .tup _ => Decidable.isFalse nofun | .loc _ => Decidable.isFalse nofun | .obj _ _ => Decidable.isFalse nofun | .cls _ => Decidable.isFalse nofun
  | .tup x, b => match b with
    | .tup y => match D.decL x y with
      | Decidable.isTrue h => Decidable.isTrue (by rw [h])
      | Decidable.isFalse h => Decidable.isFalse (by intro z; cases z; exact h rfl)
    | .non => Decidable.isFalse nofun | .bl _ => Decidable.isFalse nofun | .int _ => Decidable.isFalse nofun | .str _ => Decidable.isFalse nofun | .lst _ => Decidable.isFalse nofun | .loc _ => Decidable.isFalse nofun | .obj _ _ => Decidable.isFalse nofun | .cls _ => Decidable.isFalse nofun
  | .loc x, b => match b with
    | .loc y => if h : x = y then Decidable.isTrue (by rw [h]) else Decidable.isFalse (by intro z; cases z; exact h rfl)
    | .non => Decidable.isFalse nofun | .bl _ => Decidable.isFalse nofun | .int _ => Decidable.isFalse nofun | .str _ => Decidable.isFalse nofun | .lst _ => Decidable.isFalse nofun | .tup _ => Decidable.isFalse nofun | .obj _ _ => Decidable.isFalse nofun | .cls _ => Decidable.isFalse nofun
  | .obj c x, b => match b with
    | .obj c' y => if h : c = c' then (match D.decL x y with
      | Decidable.isTrue h' => Decidable.isTrue (by rw [h, h'])
      | Decidable.isFalse h' => Decidable.isFalse (by intro z; cases z; exact h' rfl)) else Decidable.isFalse (by intro z; cases z; exact h rfl)
    | .non => Decidable.isFalse nofun | .bl _ => Decidable.isFalse nofun | .int _ => Decidable.isFalse nofun | .str _ => Decidable.isFalse nofun | .lst _ => Decidable.isFalse nofun | .tup _ => Decidable.isFalse nofun | .loc _ => Decidable.isFalse nofun | .cls _ => Decidable.isFalse nofun
  | .cls x, b => match b with
    | .cls y => if h : x = y then Decidable.isTrue (by rw [h]) else Decidable.isFalse (by intro z; cases z; exact h rfl)
    | .non => Decidable.isFalse nofun | .bl _ => Decidable.isFalse nofun | .int _ => Decidable.isFalse nofun | .str _ => Decidable.isFalse nofun | .lst _ => Decidable.isFalse nofun | .tup _ => Decidable.isFalse nofun | .loc _ => Decidable.isFalse nofun | .obj _ _ => Decidable.isFalse nofun
def D.decL : (a b : List D) → Decidable (a = b)
  | [], [] => Decidable.isTrue rfl
  | [], _ :: _ => Decidable.isFalse nofun
  | _ :: _, [] => Decidable.isFalse nofun
  | x :: xs, y :: ys => match D.dec x y with
    | Decidable.isTrue h => match D.decL xs ys with
      | Decidable.isTrue h' => Decidable.isTrue (by rw [h, h'])
      | Decidable.isFalse h' => Decidable.isFalse (by intro z; cases z; exact h' rfl)
    | Decidable.isFalse h => Decidable.isFalse (by intro z; cases z; exact h rfl)
end
instance : DecidableEq D := D.dec

/-! ### sources of loops -/
structure Src where
  items : List D
  gd : List (Nat × List D) := []
def cellIs (m : Store) (p : Nat × List D) : Bool := match m[p.1]? with
  | some (some (.lst es)) => decide (es = p.2)
  | _ => false
def Src.okB (s : Src) (m : Store) : Bool := s.gd.all (cellIs m)
def chk (s : Src) : M Unit := fun m => if s.okB m = true then .ok () m else .bad

section
variable (k : Kx) (K : PySem.W.Frag) (E : XK)
def ItOk (G : Hp) (L : Lam) (J : It) (src : Src) : Prop := ∀ G2 H2 L2 μ, Same G G2 → L <+: L2 → Wd k K G2 H2 L2 μ → src.okB μ = true → ∀ i : Nat,
  (∀ d, src.items[i]? = some d → J.go i H2 ∧ ∀ x H3, J.yld i H2 x H3 → ∃ G3, Stp G2 H2 L2 G3 H3 L2 ∧ Wd k K G3 H3 L2 μ ∧ Rp k K G3 L2 x d) ∧ (src.items.length ≤ i → J.stop i H2)
def dI (m : DEnv → M Src) : TI := fun s H R => ∃ e G L μ, Sg k K G L s e ∧ Wd k K G H L μ ∧ Good k K E G H L (m e μ) fun src _ G' H' L' => ∀ J, ItOk k K G' L' J src → R J H'
end
abbrev JI (k : Kx) (X : Cx) (E : XK) (tg iter : Expr) (m : DEnv → M Src) : Prop := PI X tg iter (dI k X.K E m)
theorem PI.imp {X : Cx} {tg e : Expr} {t t' : TI} (h : PI X tg e t) (q : ∀ s H R, t' s H R → t s H R) : PI X tg e t' := ⟨fun pins s σ H R I hw => h.run pins s σ H R I (q _ _ _ hw)⟩

section
variable {k : Kx} {K : PySem.W.Frag} {E : XK} {G H : Hp} {L : Lam} {α β : Type}
theorem Good.bind0 {x : M α} {f : α → M β} {m : Store} {Q : β → Store → Hp → Hp → Lam → Prop} (h : Good k K E G H L ((x >>= f) m) Q) :
    Good k K E G H L (x m) (fun a m' _ _ _ => Good k K E G H L (f a m') Q) := by
  have h' : Good k K E G H L (M.bind x f m) Q := h
  unfold M.bind at h'
  cases e : x m with
  | ok a m' =>
    rw [e] at h'
    exact fun G' H' L' e1 w => h'
  | exn c fs m' =>
    rw [e] at h'
    exact h'
  | bad =>
    rw [e] at h'
    exact h'
theorem chk_good {src : Src} {f : Unit → M β} {m : Store} {Q : β → Store → Hp → Hp → Lam → Prop} (h : Good k K E G H L ((chk src >>= f) m) Q) : src.okB m = true ∧ Good k K E G H L (f () m) Q := by
  have h' : Good k K E G H L (M.bind (chk src) f m) Q := h
  unfold M.bind chk at h'
  by_cases hc : src.okB m = true
  · rw [if_pos hc] at h'
    exact ⟨hc, h'⟩
  · rw [if_neg hc] at h'
    exact False.elim h'
/-- a private object changes -/
theorem Wd.priv {m : Store} (w : Wd k K G H L m) {a : Addr} {o : HO} (ga : G a = none) (nl : ∀ p ∈ L, a ≠ p.1 ∧ a ≠ p.2) : Wd k K G (upd H a o) L m where
  ext := fun b u e => by
    rw [upd_ne (ne_of_none e ga)]
    exact w.ext b u e
  len := w.len
  tk := fun q hq => ⟨some_upd (w.tk q hq).1, some_upd (w.tk q hq).2⟩
  cell := fun n c e => by
    obtain ⟨x, y, hl, gx, gy, r⟩ := w.cell n c e
    obtain ⟨n1, n2⟩ := nl (x, y) (List.mem_of_getElem? hl)
    exact ⟨x, y, hl, gx, gy, r.step (Same.refl G) (pre_refl L) (upd_ne (Ne.symm n1)) (upd_ne (Ne.symm n2))⟩
  apart := w.apart
/-- a private object becomes data -/
theorem Wd.adopt {m : Store} (w : Wd k K G H L m) {a : Addr} {o : HO} (ga : G a = none) (ha : H a = some o) (nl : ∀ p ∈ L, a ≠ p.1 ∧ a ≠ p.2) : Wd k K (upd G a o) H L m where
  ext := fun b u e => by
    by_cases hb : b = a
    · subst hb
      rw [upd_same] at e
      cases e
      exact ha
    · rw [upd_ne hb] at e
      exact w.ext b u e
  len := w.len
  tk := w.tk
  cell := fun n c e => by
    obtain ⟨x, y, hl, gx, gy, r⟩ := w.cell n c e
    obtain ⟨n1, n2⟩ := nl (x, y) (List.mem_of_getElem? hl)
    exact ⟨x, y, hl, by rw [upd_ne (Ne.symm n1)]; exact gx, by rw [upd_ne (Ne.symm n2)]; exact gy, r.step (Same.new ga) (pre_refl L) rfl rfl⟩
  apart := w.apart
/-- a private list becomes a mutable one of the data -/
theorem Wd.adoptLoc {m : Store} (w : Wd k K G H L m) {a : Addr} {vs : List V} {ds : List D} (ga : G a = none) (ha : H a = some (.lst vs)) (nl : ∀ p ∈ L, a ≠ p.1 ∧ a ≠ p.2) (r : RpA k K G L vs ds) : Wd k K G H (L ++ [(a, a)]) (m ++ [some (.lst ds)]) where
  ext := w.ext
  len := by simp [w.len]
  tk := fun q hq => by
    rcases List.mem_append.mp hq with z | z
    · exact w.tk q z
    · simp at z
      subst z
      exact ⟨⟨_, ha⟩, ⟨_, ha⟩⟩
  cell := fun n c e => by
    by_cases hn : n < m.length
    · rw [List.getElem?_append_left hn] at e
      obtain ⟨x, y, hl, gx, gy, r'⟩ := w.cell n c e
      exact ⟨x, y, pre_get (List.prefix_append _ _) hl, gx, gy, r'.step (Same.refl G) (List.prefix_append _ _) rfl rfl⟩
    · have h1 := (List.getElem?_eq_some_iff.mp e).1
      simp at h1
      have e0 : n = m.length := by omega
      subst e0
      simp at e
      subst e
      exact ⟨a, a, by rw [← w.len]; simp, ga, ga, rfl, vs, ha, RpA.mono (Same.refl G) (List.prefix_append _ _) _ _ r⟩
  apart := fun i j x y x' y' li lj ne hx hy => by
    have old : ∀ {i : Nat} {x y : Addr}, Live m i → (L ++ [(a, a)])[i]? = some (x, y) → x ≠ a ∧ y ≠ a ∧ L[i]? = some (x, y) := fun {i x y} li hx => by
      have hlt : i < L.length := by rw [w.len]; exact live_lt li
      rw [List.getElem?_append_left hlt] at hx
      obtain ⟨n1, n2⟩ := nl (x, y) (List.mem_of_getElem? hx)
      exact ⟨Ne.symm n1, Ne.symm n2, hx⟩
    have new : ∀ {x y : Addr}, (L ++ [(a, a)])[m.length]? = some (x, y) → x = a ∧ y = a := fun {x y} hx => by
      rw [← w.len] at hx
      simp at hx
      exact ⟨hx.1.symm, hx.2.symm⟩
    rcases live_app li with li | e1
    · obtain ⟨n1, n2, q1⟩ := old li hx
      rcases live_app lj with lj | e2
      · obtain ⟨n3, n4, q2⟩ := old lj hy
        exact w.apart i j x y x' y' li lj ne q1 q2
      · subst e2
        obtain ⟨rfl, rfl⟩ := new hy
        exact ⟨n1, n1, n2, n2⟩
    · subst e1
      obtain ⟨rfl, rfl⟩ := new hx
      rcases live_app lj with lj | e2
      · obtain ⟨n3, n4, q2⟩ := old lj hy
        exact ⟨n3.symm, n4.symm, n3.symm, n4.symm⟩
      · exact absurd e2.symm ne
end

/-! ### blocks and statements -/
def sNil : DEnv → M Out := fun e => pure (.nx e)
def andThen (o : Out) (s : DEnv → M Out) : M Out := match o with
  | .nx e => s e
  | o => pure o
def sSeq (s t : DEnv → M Out) : DEnv → M Out := fun e => do let o ← s e; andThen o t
def sSet (i : Nat) (a : DEnv → M D) : DEnv → M Out := fun e => do let x ← a e; pure (.nx (e.set i (some x)))
def sAsg (a : DEnv → M D) (g : D → DEnv → M DEnv) : DEnv → M Out := fun e => do let x ← a e; let e' ← g x e; pure (.nx e')
def sPar (i j : Nat) (a b : DEnv → M D) : DEnv → M Out := fun e => do let x ← a e; let y ← b e; pure (.nx ((e.set i (some x)).set j (some y)))
def sIf (t : DEnv → M Bool) (s u : DEnv → M Out) : DEnv → M Out := fun e => do let c ← t e; if c then s e else u e
def sRet (a : DEnv → M D) : DEnv → M Out := fun e => do let x ← a e; pure (.rt x)
def sRetN : DEnv → M Out := fun _ => pure (.rt .non)
def sExpr (a : DEnv → M D) : DEnv → M Out := fun e => do let _ ← a e; pure (.nx e)
def sBrk : DEnv → M Out := fun e => pure (.bk e)
def sCnt : DEnv → M Out := fun e => pure (.ct e)
def forL (src : Src) (g : D → DEnv → M DEnv) (b : DEnv → M Out) : List D → DEnv → M Out
  | [], e => do chk src; pure (.nx e)
  | d :: ds, e => do
    chk src
    let e1 ← g d e
    let o ← b e1
    match o with
      | .nx e2 => forL src g b ds e2
      | .ct e2 => forL src g b ds e2
      | .bk e2 => pure (.nx e2)
      | .rt d => pure (.rt d)
def sFor (it : DEnv → M Src) (g : D → DEnv → M DEnv) (b : DEnv → M Out) : DEnv → M Out := fun e => do let src ← it e; forL src g b src.items e
def whileL (t : DEnv → M Bool) (b : DEnv → M Out) : Nat → DEnv → M Out
  | 0, _ => M.bad
  | n + 1, e => do
    let c ← t e
    if c then (do
      let o ← b e
      match o with
        | .nx e2 => whileL t b n e2
        | .ct e2 => whileL t b n e2
        | .bk e2 => pure (.nx e2)
        | .rt d => pure (.rt d)) else pure (.nx e)
def sWhile (fuel : Nat) (t : DEnv → M Bool) (b : DEnv → M Out) : DEnv → M Out := fun e => whileL t b fuel e
def gNm (i : Nat) : D → DEnv → M DEnv := fun d e => pure (e.set i (some d))
def gTp (n : Nat) (g : List D → DEnv → M DEnv) : D → DEnv → M DEnv := fun d e => match d with
  | .tup ds => if ds.length = n then g ds e else M.bad
  | _ => M.bad
def gsNil : List D → DEnv → M DEnv := fun _ e => pure e
def gsCons (g : D → DEnv → M DEnv) (gs : List D → DEnv → M DEnv) : List D → DEnv → M DEnv := fun ds e => match ds with
  | d :: r => do let e1 ← g d e; gs r e1
  | [] => M.bad

section
variable {k : Kx} {X : Cx} {E : XK} {e a b : Expr} {ma mb : DEnv → M D} {pos : Pos} {st : Stmt} {rest : List Stmt} {ms mr mt' : DEnv → M Out} {mt : DEnv → M Bool}
theorem jb_nil : JB k X E [] sNil := by
  refine PSs.imp pss_nil fun D s H h => ?_
  obtain ⟨e, G, L, μ, sg, w, gd⟩ := h
  exact Good.ret gd w s sg
theorem jb_one (h : JS k X E st ms) : JB k X E [st] ms := pss_one h
theorem jb_cons (h : JS k X E st ms) (hr : JB k X E rest mr) : JB k X E (st :: rest) (sSeq ms mr) := by
  refine PSs.imp (pss_cons h hr) fun D s H h => ?_
  obtain ⟨e, G, L, μ, sg, w, gd⟩ := h
  refine ⟨e, G, L, μ, sg, w, Good.mono (Good.bind gd) fun o m1 G1 H1 L1 st1 w1 q1 => ?_⟩
  cases o with
  | nx e1 => exact fun s1 sg1 => ⟨e1, G1, L1, m1, sg1, w1, q1⟩
  | rt d => exact Good.ret q1 w1
  | bk e1 => exact Good.ret q1 w1
  | ct e1 => exact Good.ret q1 w1
theorem js_set (i : Nat) {x : Str} {pos' : Pos} (hN : X.N.Nodup) (hi : X.N[i]? = some x) (hx : Loc X.env.scope x) (ha : JE k X E a ma) (hs : swapsWith a (some (.Name x pos')) pos.line X.env = pure false := by rfl)
    (hf : X.fn x = true ∨ X.env.scope.names.lookup x = some .local := by first | exact .inl rfl | exact .inr rfl | assumption) : JS k X E (.Assign [.Name x pos'] a pos) (sSet i ma) := by
  refine PS.imp (ps_set hN hi hx ha hs hf) fun D s H h => ?_
  obtain ⟨e, G, L, μ, sg, w, gd⟩ := h
  refine ⟨e, G, L, μ, sg, w, Good.mono (Good.bind gd) fun d m1 G1 H1 L1 st1 w1 q1 v r => ?_⟩
  exact Good.ret q1 w1 _ ((sg.mono st1.g st1.l).set i r)
theorem js_ret (ha : JE k X E a ma) : JS k X E (.Return (some a) pos) (sRet ma) := by
  refine PS.imp (ps_ret ha) fun D s H h => ?_
  obtain ⟨e, G, L, μ, sg, w, gd⟩ := h
  exact ⟨e, G, L, μ, sg, w, Good.mono (Good.bind gd) fun d m1 G1 H1 L1 st1 w1 q1 v r => Good.ret q1 w1 _ r⟩
theorem js_retN : JS k X E (.Return none pos) sRetN := by
  refine PS.imp ps_retN fun D s H h => ?_
  obtain ⟨e, G, L, μ, sg, w, gd⟩ := h
  exact Good.ret gd w _ .non
theorem js_expr (ha : JE k X E a ma) (hs : swapsWith a none pos.line X.env = pure false := by rfl) : JS k X E (.Expr a pos) (sExpr ma) := by
  refine PS.imp (ps_expr ha hs) fun D s H h => ?_
  obtain ⟨e, G, L, μ, sg, w, gd⟩ := h
  exact ⟨e, G, L, μ, sg, w, Good.mono (Good.bind gd) fun d m1 G1 H1 L1 st1 w1 q1 v r => Good.ret q1 w1 _ (sg.mono st1.g st1.l)⟩
theorem js_if {c : Expr} {sa sb : List Stmt} (hc : JT k X E c mt) (ha : JB k X E sa ms) (hb : JB k X E sb mr) : JS k X E (.If c sa sb pos) (sIf mt ms mr) := by
  refine PS.imp (ps_if hc ha hb) fun D s H h => ?_
  obtain ⟨e, G, L, μ, sg, w, gd⟩ := h
  refine ⟨e, G, L, μ, sg, w, Good.mono (Good.bind gd) fun c m1 G1 H1 L1 st1 w1 q1 => ?_⟩
  cases c with
  | true => exact ⟨e, G1, L1, m1, sg.mono st1.g st1.l, w1, q1⟩
  | false => exact ⟨e, G1, L1, m1, sg.mono st1.g st1.l, w1, q1⟩
theorem js_pass : JS k X E (.Pass pos) sNil := by
  refine PS.imp ps_pass fun D s H h => ?_
  obtain ⟨e, G, L, μ, sg, w, gd⟩ := h
  exact Good.ret gd w s sg
theorem js_brk : JS k X E (.Break pos) sBrk := by
  refine PS.imp ps_break fun D s H h => ?_
  obtain ⟨e, G, L, μ, sg, w, gd⟩ := h
  exact Good.ret gd w s sg
theorem js_cnt : JS k X E (.Continue pos) sCnt := by
  refine PS.imp ps_continue fun D s H h => ?_
  obtain ⟨e, G, L, μ, sg, w, gd⟩ := h
  exact Good.ret gd w s sg

/-! targets -/
theorem set_agree {s : L2.St} {i : Nat} {v : V} : (s.set i (some v)).length = s.length ∧ ∀ j, j ∉ [i] → (s.set i (some v))[j]? = s[j]? := ⟨List.length_set, fun j hj => List.getElem?_set_ne (by simp at hj; exact Ne.symm hj)⟩
theorem jg_name (i : Nat) {x : Str} (hN : X.N.Nodup) (hi : X.N[i]? = some x) (hx : Loc X.env.scope x) (hf : X.fn x = true ∨ X.env.scope.names.lookup x = some .local := by first | exact .inl rfl | exact .inr rfl | assumption) : JG k X E (.Name x pos) [i] (gNm i) := by
  refine PG.imp (pg_name hN hi hx hf) fun v s H Q h => ?_
  obtain ⟨d, e, G, L, μ, sg, r, w, gd⟩ := h
  exact Good.ret gd w _ (sg.set i r) set_agree
/-- several targets -/
def dGs (k : Kx) (K : PySem.W.Frag) (E : XK) (ts : List Nat) (g : List D → DEnv → M DEnv) : TGs := fun vs s H Q => ∃ ds e G L μ, Sg k K G L s e ∧ RpA k K G L vs ds ∧ Wd k K G H L μ ∧ Good k K E G H L (g ds e μ) fun e' _ G' H' L' => ∀ s', Sg k K G' L' s' e' → (s'.length = s.length ∧ ∀ i, i ∉ ts → s'[i]? = s[i]?) → Q s' H'
abbrev JGs (k : Kx) (X : Cx) (E : XK) (n : Nat) (es : List Expr) (ts : List Nat) (g : List D → DEnv → M DEnv) : Prop := ∃ t, PGs X es t ∧ ∀ vs s H Q, vs.length = n → dGs k X.K E ts g vs s H Q → t vs s H Q
theorem jgs_nil : JGs k X E 0 [] [] gsNil := by
  refine ⟨_, pgs_nil, fun vs s H Q hl h => ?_⟩
  obtain ⟨ds, e, G, L, μ, sg, r, w, gd⟩ := h
  exact ⟨List.eq_nil_of_length_eq_zero hl, Good.ret gd w _ sg ⟨rfl, fun _ _ => rfl⟩⟩
theorem jgs_cons {n : Nat} {tg : Expr} {tgs : List Expr} {ts us : List Nat} {g : D → DEnv → M DEnv} {gs : List D → DEnv → M DEnv} (h : JG k X E tg ts g) (hs : JGs k X E n tgs us gs) (hst : (assignEach (tg :: tgs) X.env).map (·.2) = assign tg X.env :: (assignEach tgs X.env).map (·.2) := by rfl) : JGs k X E (n + 1) (tg :: tgs) (ts ++ us) (gsCons g gs) := by
  obtain ⟨t, h2, q⟩ := hs
  refine ⟨_, pgs_cons h h2 hst, fun vs s H Q hl hd => ?_⟩
  obtain ⟨ds, e, G, L, μ, sg, r, w, gd⟩ := hd
  cases r with
  | nil => cases hl
  | @cons v vs d ds h1 hr =>
    refine ⟨v, vs, rfl, ⟨d, e, G, L, μ, sg, h1, w, Good.mono (Good.bind gd) fun e1 m1 G1 H1 L1 st1 w1 q1 s1 sg1 ag => ?_⟩⟩
    refine q vs s1 H1 Q (by simpa using hl) ⟨ds, e1, G1, L1, m1, sg1, RpA.mono st1.g st1.l _ _ hr, w1, Good.mono q1 fun e2 m2 G2 H2 L2 st2 w2 q2 s2 sg2 ag2 => ?_⟩
    refine q2 s2 sg2 ⟨ag2.1.trans ag.1, fun i hi => ?_⟩
    rw [List.mem_append, not_or] at hi
    rw [ag2.2 i hi.2, ag.2 i hi.1]
theorem jg_tup {n : Nat} {es : List Expr} {kk : Nat} {ts : List Nat} {g : List D → DEnv → M DEnv} (hc : X.calm = true) (h : JGs k X E n es ts g)
    (hn : (assignEach es X.env).length = n := by rfl) (hst : (assignEach es X.env).findIdx? (·.1) = none := by rfl) : JG k X E (.Tuple es kk pos) ts (gTp n g) := by
  obtain ⟨t, h1, q⟩ := h
  refine PG.imp (pg_tup hc h1 hn hst) fun v s H Q hd => ?_
  obtain ⟨d, e, G, L, μ, sg, r, w, gd⟩ := hd
  cases d with
  | tup ds =>
    cases r with
    | @tup a xs _ hs ha =>
      obtain ⟨hl, gd⟩ := good_ite gd
      exact ⟨a, xs, rfl, sqT_mono w.ext hs, by rw [ha.len]; exact hl, q xs s H Q (by rw [ha.len]; exact hl) ⟨ds, e, G, L, μ, sg, ha, w, gd⟩⟩
  | _ => exact False.elim gd
theorem js_asg {tg : Expr} {ts : List Nat} {g : D → DEnv → M DEnv} (ha : JE k X E a ma) (hg : JG k X E tg ts g) (hs : swapsWithSole [tg] a pos.line X.env = pure false := by rfl) (hw : swappedStores [tg] a X.env = pure none := by rfl)
    (h1 : (assignEach [tg] X.env).map (·.2) = [assign tg X.env] := by rfl) : JS k X E (.Assign [tg] a pos) (sAsg ma g) := by
  refine PS.imp (ps_asg ha hg hs hw h1) fun D s H h => ?_
  obtain ⟨e, G, L, μ, sg, w, gd⟩ := h
  refine ⟨e, G, L, μ, sg, w, Good.mono (Good.bind gd) fun d m1 G1 H1 L1 st1 w1 q1 v r => ?_⟩
  refine ⟨d, e, G1, L1, m1, sg.mono st1.g st1.l, r, w1, Good.mono (Good.bind q1) fun e2 m2 G2 H2 L2 st2 w2 q2 s2 sg2 ag => ?_⟩
  exact Good.ret q2 w2 _ sg2
end
end DL

namespace DL
open PySem L2 PyProof.Rows

section
variable {k : Kx} {X : Cx} {E : XK} {tg iter : Expr} {pos : Pos}
/-! ### loops -/
theorem js_for {body : List Stmt} {mi : DEnv → M Src} {ts : List Nat} {g : D → DEnv → M DEnv} {mb : DEnv → M Out} (hp : PassesOwn (model X.prog X.w) X.A X.env X.xe) (hc : X.calm = true) (hi : JI k X E tg iter mi) (hg : JG k X E tg ts g) (hb : JB k X E body mb)
    (hs : ∀ x, foldedSetIterable iter X.env x = pure x := by intro _; rfl) : JS k X E (.For tg iter body [] pos) (sFor mi g mb) := by
  refine PS.imp (ps_for hp hc hi hg hb hs) fun Ds s H h => ?_
  obtain ⟨e, G, L, μ, sg, w, gd⟩ := h
  refine ⟨e, G, L, μ, sg, w, Good.mono (Good.bind gd) fun src m1 G1 H1 L1 st1 w1 q1 J ok => ?_⟩
  refine ⟨fun i m σ H => m = src.items.length - i ∧ i ≤ src.items.length ∧ ∃ e G L μ, Sg k X.K G L σ e ∧ Wd k X.K G H L μ ∧ Same G1 G ∧ L1 <+: L ∧ Good k X.K E G H L (forL src g mb (src.items.drop i) e μ) (fun o _ G' H' L' => OutOk k X.K Ds o G' H' L'),
    ⟨src.items.length, by simp, Nat.zero_le _, e, G1, L1, m1, sg.mono st1.g st1.l, w1, Same.refl _, pre_refl _, by simpa using q1⟩, ?_⟩
  rintro i m σ H2 ⟨rfl, hi, e2, G2, L2, μ2, sg2, w2, ge, le, q2⟩
  by_cases hlt : i < src.items.length
  · have hd : src.items.drop i = src.items[i] :: src.items.drop (i + 1) := List.drop_eq_getElem_cons hlt
    rw [hd] at q2
    obtain ⟨hok, q2⟩ := chk_good q2
    obtain ⟨ho, _⟩ := ok G2 H2 L2 μ2 ge le w2 hok i
    obtain ⟨go, yl⟩ := ho src.items[i] (List.getElem?_eq_getElem hlt)
    refine .inr ⟨go, fun σ' H' => ∃ e G L μ, Sg k X.K G L σ' e ∧ Wd k X.K G H' L μ ∧ Same G1 G ∧ L1 <+: L ∧ Good k X.K E G H' L (forL src g mb (src.items.drop (i + 1)) e μ) (fun o _ G' H' L' => OutOk k X.K Ds o G' H' L'), ?_, fun x H3 y => ?_⟩
    · rintro σ' H' q
      exact ⟨src.items.length - (i + 1), by omega, rfl, hlt, q⟩
    · obtain ⟨G3, st3, w3, r3⟩ := yl x H3 y
      refine ⟨src.items[i], e2, G3, L2, μ2, sg2.mono st3.g st3.l, r3, w3, Good.mono (Good.bind (Good.up q2 st3)) fun e4 m4 G4 H4 L4 st4 w4 q4 s4 sg4 ag => ?_⟩
      refine ⟨e4, G4, L4, m4, sg4, w4, Good.mono (Good.bind q4) fun o m5 G5 H5 L5 st5 w5 q5 => ?_⟩
      have ge5 : Same G1 G5 := ((ge.trans st3.g).trans st4.g).trans st5.g
      have le5 : L1 <+: L5 := ((le.trans st3.l).trans st4.l).trans st5.l
      cases o with
      | nx e5 => exact fun s5 sg5 => ⟨e5, G5, L5, m5, sg5, w5, ge5, le5, q5⟩
      | ct e5 => exact fun s5 sg5 => ⟨e5, G5, L5, m5, sg5, w5, ge5, le5, q5⟩
      | bk e5 => exact fun s5 sg5 => Good.ret q5 w5 s5 sg5
      | rt d => exact Good.ret q5 w5
  · have e0 : i = src.items.length := by omega
    subst e0
    rw [List.drop_length] at q2
    obtain ⟨hok, q2⟩ := chk_good q2
    obtain ⟨_, stp⟩ := ok G2 H2 L2 μ2 ge le w2 hok src.items.length
    exact .inl ⟨stp (Nat.le_refl _), Good.ret q2 w2 σ sg2⟩
theorem js_while {c : Expr} {body : List Stmt} {mt : DEnv → M Bool} {mb : DEnv → M Out} (fuel : Nat) (hp : PassesOwn (model X.prog X.w) X.A X.env X.xe) (hc : JT k X E c mt) (hb : JB k X E body mb) : JS k X E (.While c body [] pos) (sWhile fuel mt mb) := by
  refine PS.imp (ps_while hp hc hb) fun Ds s H h => ?_
  obtain ⟨e, G, L, μ, sg, w, gd⟩ := h
  refine ⟨fun m σ H => ∃ e G L μ, Sg k X.K G L σ e ∧ Wd k X.K G H L μ ∧ Good k X.K E G H L (whileL mt mb m e μ) (fun o _ G' H' L' => OutOk k X.K Ds o G' H' L'), ⟨fuel, e, G, L, μ, sg, w, gd⟩, ?_⟩
  rintro m σ H ⟨e, G, L, μ, sg, w, gd⟩
  cases m with
  | zero => exact False.elim gd
  | succ n =>
    refine ⟨e, G, L, μ, sg, w, Good.mono (Good.bind gd) fun c m1 G1 H1 L1 st1 w1 q1 => ?_⟩
    cases c with
    | false => exact Good.ret q1 w1 σ (sg.mono st1.g st1.l)
    | true =>
      refine ⟨fun σ' H' => ∃ e G L μ, Sg k X.K G L σ' e ∧ Wd k X.K G H' L μ ∧ Good k X.K E G H' L (whileL mt mb n e μ) (fun o _ G' H' L' => OutOk k X.K Ds o G' H' L'), fun σ' H' q => ⟨n, Nat.lt_succ_self n, q⟩, ?_⟩
      refine ⟨e, G1, L1, m1, sg.mono st1.g st1.l, w1, Good.mono (Good.bind q1) fun o m5 G5 H5 L5 st5 w5 q5 => ?_⟩
      cases o with
      | nx e5 => exact fun s5 sg5 => ⟨e5, G5, L5, m5, sg5, w5, q5⟩
      | ct e5 => exact fun s5 sg5 => ⟨e5, G5, L5, m5, sg5, w5, q5⟩
      | bk e5 => exact fun s5 sg5 => Good.ret q5 w5 s5 sg5
      | rt d => exact Good.ret q5 w5

/-! ### sources -/
def srcD (d : D) : M Src := fun m => match d with
  | .lst ds => .ok ⟨ds, []⟩ m
  | .tup ds => .ok ⟨ds, []⟩ m
  | .loc n => match m[n]? with
    | some (some (.lst ds)) => .ok ⟨ds, [(n, ds)]⟩ m
    | _ => .bad
  | _ => .bad
def iSeqD (a : DEnv → M D) : DEnv → M Src := fun e => do let x ← a e; srcD x
def iSeqT (K : PySem.W.Frag) (tl : TE) : TI := fun σ H R => tl σ H fun x H1 => ∃ a, x = .ref a ∧ (((∃ xs, SqL K H1 a xs) ∧ R (Itl K a) H1) ∨ ((∃ xs, SqT K H1 a xs) ∧ R (Itt K a) H1))
theorem pi_seq {l : Expr} {tl : TE} (hl : PE X l tl) : PI X tg l (iSeqT X.K tl) := by
  refine ⟨fun pins s σ H R I h => ?_⟩
  refine thn (hl.run pins s σ H _ I h) fun v s1 ⟨x, H1, I1, r1, q1⟩ => ?_
  obtain ⟨a, e, q1⟩ := q1
  subst e
  cases r1
  have fin : ∀ b ∈ [s1.heap.objs.size], FpOk X pins H1 b := fun b hb => by
    have e : b = s1.heap.objs.size := by simpa using hb
    subst e
    exact I1.fpOk (Nat.le_refl _) (I1.hok.fresh (Nat.le_refl _))
  rcases q1 with ⟨⟨xs, hq⟩, q⟩ | ⟨⟨xs, hq⟩, q⟩
  · obtain ⟨its, rv, p, hz⟩ := I1.list hq
    refine wpAny_pyIter_list p.isList ?_
    exact ⟨s1.heap.objs.size, [s1.heap.objs.size], _, _, H1, rfl, I1.kept (t' := s1.toks) fun b o e => Heap.get?_push_of_some _ e, turn_list a _, ⟨_, Heap.get?_push_size _ rfl, rfl, rfl⟩, fin, q⟩
  · obtain ⟨its, rv, p, hz⟩ := I1.tuple hq
    refine wpAny_pyIter_tuple (show s1.heap.IsTuple a its.toArray from p) ?_
    exact ⟨s1.heap.objs.size, [s1.heap.objs.size], _, _, H1, rfl, I1.kept (t' := s1.toks) fun b o e => Heap.get?_push_of_some _ e, turn_tuple a _, ⟨_, Heap.get?_push_size _ rfl, rfl, rfl⟩, fin, q⟩
theorem cellIs_of {m : Store} {n : Nat} {ds : List D} (h : cellIs m (n, ds) = true) : m[n]? = some (some (.lst ds)) := by
  unfold cellIs at h
  split at h
  · rename_i es e
    have := of_decide_eq_true h
    simp only at this e
    rw [e, this]
  · cases h
/-- a source's address, and its items through all that follows -/
def Stand (k : Kx) (K : PySem.W.Frag) (G : Hp) (L : Lam) (src : Src) (a : Addr) (isL : Bool) : Prop :=
  ∀ G2 H2 L2 μ, Same G G2 → L <+: L2 → Wd k K G2 H2 L2 μ → src.okB μ = true → ∃ vs, (if isL = true then SqL K H2 a vs else SqT K H2 a vs) ∧ RpA k K G2 L2 vs src.items
theorem okB_app {s t : Src} {m : Store} {xs : List D} (h : (Src.mk xs (s.gd ++ t.gd)).okB m = true) : s.okB m = true ∧ t.okB m = true := by
  unfold Src.okB at h ⊢
  rw [List.all_append, Bool.and_eq_true] at h
  exact h
theorem src_at {d : D} {x : V} {G H : Hp} {L : Lam} {μ : Store} {β : Type} {f : Src → M β} {Q : β → Store → Hp → Hp → Lam → Prop} (r : Rp k X.K G L x d) (w : Wd k X.K G H L μ) (g : Good k X.K E G H L ((srcD d >>= f) μ) Q) :
    ∃ a isL src, x = .ref a ∧ (∃ vs, if isL = true then SqL X.K H a vs else SqT X.K H a vs) ∧ Stand k X.K G L src a isL ∧ Good k X.K E G H L (f src μ) Q := by
  cases d with
  | lst ds =>
    cases r with
    | @lst a xs _ hs ha => exact ⟨a, true, ⟨ds, []⟩, rfl, ⟨xs, w.ext.seq hs⟩, fun G2 H2 L2 μ2 ge le w2 _ => ⟨xs, (ge.trans w2.ext).seq hs, RpA.mono ge le _ _ ha⟩, g⟩
  | tup ds =>
    cases r with
    | @tup a xs _ hs ha => exact ⟨a, false, ⟨ds, []⟩, rfl, ⟨xs, sqT_mono w.ext hs⟩, fun G2 H2 L2 μ2 ge le w2 _ => ⟨xs, sqT_mono (ge.trans w2.ext) hs, RpA.mono ge le _ _ ha⟩, g⟩
  | loc n =>
    have g' : Good k X.K E G H L (M.bind (srcD (.loc n)) f μ) Q := g
    unfold M.bind srcD at g'
    simp only at g'
    cases hm : μ[n]? with
    | none => rw [hm] at g'; exact False.elim g'
    | some o =>
      cases o with
      | none => rw [hm] at g'; exact False.elim g'
      | some c =>
        cases c with
        | ins _ _ => rw [hm] at g'; exact False.elim g'
        | lst ds =>
          rw [hm] at g'
          obtain ⟨a, vs, rfl, hl, _, h, ra⟩ := w.look hm r
          refine ⟨a, true, ⟨ds, [(n, ds)]⟩, rfl, ⟨vs, SqL.of h⟩, fun G2 H2 L2 μ2 ge le w2 ok => ?_, g'⟩
          have hc : cellIs μ2 (n, ds) = true := by
            have : ([(n, ds)] : List (Nat × List D)).all (cellIs μ2) = true := ok
            simpa using this
          obtain ⟨a', vs', e1, hl', _, h', ra'⟩ := w2.look (cellIs_of hc) (Rp.mono ge le _ _ r)
          cases e1
          exact ⟨vs', SqL.of h', ra'⟩
  | _ => exact False.elim g
theorem itt_ok {G : Hp} {L : Lam} {src : Src} {a : Addr} (h : Stand k X.K G L src a false) : ItOk k X.K G L (Itt X.K a) src := by
  intro G2 H2 L2 μ ge le w ok i
  obtain ⟨vs, hs, ra⟩ := h G2 H2 L2 μ ge le w ok
  refine ⟨fun d hd => ?_, fun hl => ⟨vs, hs, by rw [ra.len]; exact hl⟩⟩
  obtain ⟨v, hv, rv⟩ := ra.get hd
  refine ⟨⟨vs, v, hs, hv⟩, fun x H3 y => ?_⟩
  obtain ⟨rfl, y⟩ := y
  have := y vs hs
  rw [hv] at this
  cases this
  exact ⟨G2, Stp.refl _ _ _, w, rv⟩
theorem itl_ok' {G : Hp} {L : Lam} {src : Src} {a : Addr} (h : Stand k X.K G L src a true) : ItOk k X.K G L (Itl X.K a) src := by
  intro G2 H2 L2 μ ge le w ok i
  obtain ⟨vs, hs, ra⟩ := h G2 H2 L2 μ ge le w ok
  refine ⟨fun d hd => ?_, fun hl => ⟨vs, hs, by rw [ra.len]; exact hl⟩⟩
  obtain ⟨v, hv, rv⟩ := ra.get hd
  refine ⟨⟨vs, v, hs, hv⟩, fun x H3 y => ?_⟩
  obtain ⟨rfl, y⟩ := y
  have := y vs hs
  rw [hv] at this
  cases this
  exact ⟨G2, Stp.refl _ _ _, w, rv⟩
theorem ji_seq {a : Expr} {ma : DEnv → M D} (ha : JE k X E a ma) : JI k X E tg a (iSeqD ma) := by
  refine PI.imp (pi_seq ha) fun s H R h => ?_
  obtain ⟨e, G, L, μ, sg, w, gd⟩ := h
  refine ⟨e, G, L, μ, sg, w, Good.mono (Good.bind gd) fun d m1 G1 H1 L1 st1 w1 q1 v r => ?_⟩
  obtain ⟨a, isL, src, rfl, ⟨vs, hv⟩, sd, q⟩ := src_at (f := fun s => (pure s : M Src)) r w1 (show Good k X.K E G1 H1 L1 ((srcD d >>= fun s => (pure s : M Src)) m1) _ by
    have e2 : (srcD d >>= fun s => (pure s : M Src)) m1 = srcD d m1 := by
      show M.bind (srcD d) _ m1 = _
      unfold M.bind
      cases srcD d m1 <;> rfl
    rw [e2]
    exact q1)
  refine ⟨a, rfl, ?_⟩
  cases isL with
  | true => exact .inl ⟨⟨vs, hv⟩, Good.ret q w1 _ (itl_ok' sd)⟩
  | false => exact .inr ⟨⟨vs, hv⟩, Good.ret q w1 _ (itt_ok sd)⟩
/-! range -/
def rngI (lo : Int) (n : Nat) : List D := (List.range n).map fun (i : Nat) => D.int (lo + (i : Int))
def iRg1 (a : DEnv → M (List D)) : DEnv → M Src := fun e => do
  let xs ← a e
  match xs with
    | [.int n] => if -(2 ^ 62) ≤ n ∧ n < 2 ^ 62 then pure ⟨rngI 0 n.toNat, []⟩ else M.bad
    | _ => M.bad
def iRg2 (a : DEnv → M (List D)) : DEnv → M Src := fun e => do
  let xs ← a e
  match xs with
    | [.int m, .int n] => if (-(2 ^ 62) ≤ m ∧ m < 2 ^ 62) ∧ -(2 ^ 62) ≤ n ∧ n < 2 ^ 62 then pure ⟨rngI m (n - m).toNat, []⟩ else M.bad
    | _ => M.bad
theorem itr_ok {G : Hp} {L : Lam} {lo : Int} {n : Nat} : ItOk k X.K G L (Itr lo n) ⟨rngI lo n, []⟩ := by
  intro G2 H2 L2 μ ge le w ok i
  refine ⟨fun d hd => ?_, fun hl => show n ≤ i by simpa [rngI] using hl⟩
  have hi : i < n := by
    have := (List.getElem?_eq_some_iff.mp hd).1
    simpa [rngI] using this
  refine ⟨hi, fun x H3 y => ?_⟩
  obtain ⟨rfl, rfl⟩ := y
  have : d = .int (lo + (i : Int)) := by
    simp [rngI, hi] at hd
    exact hd.symm
  subst this
  exact ⟨G2, Stp.refl _ _ _, w, .int _⟩
theorem ji_range1 {a : Expr} {ms : DEnv → M (List D)} {p : Pos} (hg : Gl X "range") (hm : X.mg "range" = none) (ha : JA k X E [a] ms) (hs : starEach [a] X.env = [(false, eval a X.env)] := by rfl) : JI k X E tg (.Call (.Name "range" p) [a] [] pos) (iRg1 ms) := by
  refine PI.imp (pi_range1 hg hm ha hs) fun s H R h => ?_
  obtain ⟨e, G, L, μ, sg, w, gd⟩ := h
  refine ⟨e, G, L, μ, sg, w, Good.mono (Good.bind gd) fun ds m1 G1 H1 L1 st1 w1 q1 vs r => ?_⟩
  match ds, r, q1 with
  | [.int n], r, q1 =>
    obtain ⟨v, rfl, r'⟩ := one_of (H := H1) r
    cases r'
    obtain ⟨⟨h1, h2⟩, q1⟩ := good_ite q1
    exact ⟨n, rfl, h1, h2, Good.ret q1 w1 _ itr_ok⟩
  | [], _, q1 => exact False.elim q1
  | [.non], _, q1 => exact False.elim q1
  | [.bl _], _, q1 => exact False.elim q1
  | [.str _], _, q1 => exact False.elim q1
  | [.lst _], _, q1 => exact False.elim q1
  | [.tup _], _, q1 => exact False.elim q1
  | [.loc _], _, q1 => exact False.elim q1
  | [.obj _ _], _, q1 => exact False.elim q1
  | [.cls _], _, q1 => exact False.elim q1
  | x :: _ :: _, _, q1 => cases x <;> exact False.elim q1
theorem ji_range2 {a b : Expr} {ms : DEnv → M (List D)} {p : Pos} (hg : Gl X "range") (hm : X.mg "range" = none) (ha : JA k X E [a, b] ms) (hs : starEach [a, b] X.env = [(false, eval a X.env), (false, eval b X.env)] := by rfl) (hs2 : starEach [b] X.env = [(false, eval b X.env)] := by rfl) :
    JI k X E tg (.Call (.Name "range" p) [a, b] [] pos) (iRg2 ms) := by
  refine PI.imp (pi_range2 hg hm ha hs hs2) fun s H R h => ?_
  obtain ⟨e, G, L, μ, sg, w, gd⟩ := h
  refine ⟨e, G, L, μ, sg, w, Good.mono (Good.bind gd) fun ds m1 G1 H1 L1 st1 w1 q1 vs r => ?_⟩
  match ds, r, q1 with
  | [], _, q1 => exact False.elim q1
  | [x], _, q1 => cases x <;> exact False.elim q1
  | [x, y], r, q1 =>
    obtain ⟨v, u, rfl, r1, r2⟩ := two_of (H := H1) r
    cases x with
    | int m =>
      cases y with
      | int n =>
        cases r1
        cases r2
        obtain ⟨⟨⟨h1, h2⟩, h3, h4⟩, q1⟩ := good_ite q1
        exact ⟨m, n, rfl, ⟨h1, h2, h3, h4⟩, Good.ret q1 w1 _ itr_ok⟩
      | _ => exact False.elim q1
    | _ => exact False.elim q1
  | x :: y :: _ :: _, _, q1 => cases x <;> (cases y <;> exact False.elim q1)
/-! zip, enumerate -/
def zipT (xs ys : List D) : List D := (xs.zip ys).map fun p => D.tup [p.1, p.2]
def enumT (xs : List D) : List D := xs.zipIdx.map fun p => D.tup [.int (p.2 : Int), p.1]
def sameKind (x y : D) : Bool := match x, y with
  | .tup _, .tup _ => true
  | .tup _, _ => false
  | _, .tup _ => false
  | _, _ => true
def iZipD (a : DEnv → M (List D)) : DEnv → M Src := fun e => do
  let xs ← a e
  match xs with
    | [x, y] => if sameKind x y = true then (do let s ← srcD x; let t ← srcD y; pure ⟨zipT s.items t.items, s.gd ++ t.gd⟩) else M.bad
    | _ => M.bad
theorem zipT_get {xs ys : List D} {i : Nat} {d : D} (h : (zipT xs ys)[i]? = some d) : ∃ x y, xs[i]? = some x ∧ ys[i]? = some y ∧ d = .tup [x, y] := by
  unfold zipT at h
  rw [List.getElem?_map] at h
  cases e : (xs.zip ys)[i]? with
  | none => rw [e] at h; cases h
  | some p =>
    rw [e] at h
    cases h
    rw [List.getElem?_zip_eq_some] at e
    exact ⟨p.1, p.2, e.1, e.2, rfl⟩
theorem zipT_len (xs ys : List D) : (zipT xs ys).length = min xs.length ys.length := by simp [zipT]
theorem two_new {G H : Hp} {L : Lam} {μ : Store} {T : Addr} {x y : V} {dx dy : D} (w : Wd k X.K G H L μ) (hT : H T = none) (r1 : Rp k X.K G L x dx) (r2 : Rp k X.K G L y dy) :
    ∃ G3, Stp G H L G3 (upd H T (.tup [x, y])) L ∧ Wd k X.K G3 (upd H T (.tup [x, y])) L μ ∧ Rp k X.K G3 L (.ref T) (.tup [dx, dy]) := by
  have st := w.newS (o := .tup [x, y]) hT
  exact ⟨_, st, w.new hT, .tup (SqT.of upd_same) (.cons (Rp.mono st.g st.l _ _ r1) (.cons (Rp.mono st.g st.l _ _ r2) .nil))⟩
theorem itz_ok {G : Hp} {L : Lam} {s t : Src} {a b : Addr} (h1 : Stand k X.K G L s a true) (h2 : Stand k X.K G L t b true) : ItOk k X.K G L (Itz X.K a b) ⟨zipT s.items t.items, s.gd ++ t.gd⟩ := by
  intro G2 H2 L2 μ ge le w ok i
  obtain ⟨o1, o2⟩ := okB_app ok
  obtain ⟨vs, hs, ra⟩ := h1 G2 H2 L2 μ ge le w o1
  obtain ⟨us, ht, rb⟩ := h2 G2 H2 L2 μ ge le w o2
  refine ⟨fun d hd => ?_, fun hl => ?_⟩
  · obtain ⟨dx, dy, e1, e2, rfl⟩ := zipT_get hd
    obtain ⟨v, hv, rv⟩ := ra.get e1
    obtain ⟨u, hu, ru⟩ := rb.get e2
    refine ⟨⟨vs, us, v, u, hs, ht, hv, hu⟩, fun x H3 y => ?_⟩
    obtain ⟨T, x', y', rfl, hT, rfl, q1, q2⟩ := y
    have z1 := q1 vs hs
    have z2 := q2 us ht
    rw [hv] at z1
    rw [hu] at z2
    cases z1
    cases z2
    exact two_new w hT rv ru
  · refine ⟨vs, us, hs, ht, ?_⟩
    rw [zipT_len] at hl
    rw [ra.len, rb.len]
    omega
theorem itzT_ok {G : Hp} {L : Lam} {s t : Src} {a b : Addr} (h1 : Stand k X.K G L s a false) (h2 : Stand k X.K G L t b false) : ItOk k X.K G L (RZ.ItzT X.K a b) ⟨zipT s.items t.items, s.gd ++ t.gd⟩ := by
  intro G2 H2 L2 μ ge le w ok i
  obtain ⟨o1, o2⟩ := okB_app ok
  obtain ⟨vs, hs, ra⟩ := h1 G2 H2 L2 μ ge le w o1
  obtain ⟨us, ht, rb⟩ := h2 G2 H2 L2 μ ge le w o2
  refine ⟨fun d hd => ?_, fun hl => ?_⟩
  · obtain ⟨dx, dy, e1, e2, rfl⟩ := zipT_get hd
    obtain ⟨v, hv, rv⟩ := ra.get e1
    obtain ⟨u, hu, ru⟩ := rb.get e2
    refine ⟨⟨vs, us, v, u, hs, ht, hv, hu⟩, fun x H3 y => ?_⟩
    obtain ⟨T, x', y', rfl, hT, rfl, q1, q2⟩ := y
    have z1 := q1 vs hs
    have z2 := q2 us ht
    rw [hv] at z1
    rw [hu] at z2
    cases z1
    cases z2
    exact two_new w hT rv ru
  · refine ⟨vs, us, hs, ht, ?_⟩
    rw [zipT_len] at hl
    rw [ra.len, rb.len]
    omega
def notTup : D → Bool
  | .tup _ => false
  | _ => true
/-- src_at, with the kind told by the data -/
theorem src_atK {d : D} {x : V} {G H : Hp} {L : Lam} {μ : Store} {β : Type} {f : Src → M β} {Q : β → Store → Hp → Hp → Lam → Prop} (r : Rp k X.K G L x d) (w : Wd k X.K G H L μ) (g : Good k X.K E G H L ((srcD d >>= f) μ) Q) :
    ∃ a src, x = .ref a ∧ (∃ vs, if notTup d = true then SqL X.K H a vs else SqT X.K H a vs) ∧ Stand k X.K G L src a (notTup d) ∧ Good k X.K E G H L (f src μ) Q := by
  cases d with
  | lst ds =>
    cases r with
    | @lst a xs _ hs ha => exact ⟨a, ⟨ds, []⟩, rfl, ⟨xs, w.ext.seq hs⟩, fun G2 H2 L2 μ2 ge le w2 _ => ⟨xs, (ge.trans w2.ext).seq hs, RpA.mono ge le _ _ ha⟩, g⟩
  | tup ds =>
    cases r with
    | @tup a xs _ hs ha => exact ⟨a, ⟨ds, []⟩, rfl, ⟨xs, sqT_mono w.ext hs⟩, fun G2 H2 L2 μ2 ge le w2 _ => ⟨xs, sqT_mono (ge.trans w2.ext) hs, RpA.mono ge le _ _ ha⟩, g⟩
  | loc n =>
    have g' : Good k X.K E G H L (M.bind (srcD (.loc n)) f μ) Q := g
    unfold M.bind srcD at g'
    simp only at g'
    cases hm : μ[n]? with
    | none => rw [hm] at g'; exact False.elim g'
    | some o =>
      cases o with
      | none => rw [hm] at g'; exact False.elim g'
      | some c =>
        cases c with
        | ins _ _ => rw [hm] at g'; exact False.elim g'
        | lst ds =>
          rw [hm] at g'
          obtain ⟨a, vs, rfl, hl, _, h, ra⟩ := w.look hm r
          refine ⟨a, ⟨ds, [(n, ds)]⟩, rfl, ⟨vs, SqL.of h⟩, fun G2 H2 L2 μ2 ge le w2 ok => ?_, g'⟩
          have hc : cellIs μ2 (n, ds) = true := by
            have : ([(n, ds)] : List (Nat × List D)).all (cellIs μ2) = true := ok
            simpa using this
          obtain ⟨a', vs', e1, hl', _, h', ra'⟩ := w2.look (cellIs_of hc) (Rp.mono ge le _ _ r)
          cases e1
          exact ⟨vs', SqL.of h', ra'⟩
  | _ => exact False.elim g
theorem ji_zip {a b : Expr} {ms : DEnv → M (List D)} {p tpos : Pos} {elts : List Expr} {kk : Nat} (hg : Gl X "zip") (hm : X.mg "zip" = none) (ha : JA k X E [a, b] ms)
    (hs : starEach [a, b] X.env = (false, eval a X.env) :: starEach [b] X.env := by rfl) (hpl : (backTo pos (starEach [b] X.env)).any (·.1) = false := by rfl) :
    JI k X E (.Tuple elts kk tpos) (.Call (.Name "zip" p) [a, b] [] pos) (iZipD ms) := by
  refine PI.imp (RZ.pi_zipA hg hm ha hs hpl) fun s H R h => ?_
  obtain ⟨e, G, L, μ, sg, w, gd⟩ := h
  refine ⟨e, G, L, μ, sg, w, Good.mono (Good.bind gd) fun ds m1 G1 H1 L1 st1 w1 q1 vs r => ?_⟩
  match ds, r, q1 with
  | [], _, q1 => exact False.elim q1
  | [_], _, q1 => exact False.elim q1
  | [x, y], r, q1 =>
    obtain ⟨v, u, rfl, r1, r2⟩ := two_of (H := H1) r
    obtain ⟨hk, q1⟩ := good_ite q1
    obtain ⟨a, s, rfl, ⟨va, hva⟩, sa, q1⟩ := src_atK (f := fun s => do let t ← srcD y; (pure ⟨zipT s.items t.items, s.gd ++ t.gd⟩ : M Src)) r1 w1 q1
    obtain ⟨b, t, rfl, ⟨vb, hvb⟩, sb, q1⟩ := src_atK (f := fun t => (pure ⟨zipT s.items t.items, s.gd ++ t.gd⟩ : M Src)) r2 w1 q1
    refine ⟨a, b, va, vb, rfl, ?_⟩
    have q2 := fun J ok => Good.ret q1 w1 J ok
    cases x with
    | tup xs =>
      cases y with
      | tup ys => exact .inr ⟨hva, hvb, q2 _ (itzT_ok sa sb)⟩
      | _ => cases hk
    | _ =>
      cases y with
      | tup ys => cases hk
      | _ => exact .inl ⟨hva, hvb, q2 _ (itz_ok sa sb)⟩
  | _ :: _ :: _ :: _, _, q1 => exact False.elim q1
def iEnumD (a : DEnv → M (List D)) : DEnv → M Src := fun e => do
  let xs ← a e
  match xs with
    | [.tup _] => M.bad
    | [x] => do let s ← srcD x; pure ⟨enumT s.items, s.gd⟩
    | _ => M.bad
theorem enumT_get {xs : List D} {i : Nat} {d : D} (h : (enumT xs)[i]? = some d) : ∃ x, xs[i]? = some x ∧ d = .tup [.int (i : Int), x] := by
  unfold enumT at h
  rw [List.getElem?_map, List.getElem?_zipIdx] at h
  cases e : xs[i]? with
  | none => rw [e] at h; cases h
  | some x =>
    rw [e] at h
    simp at h
    exact ⟨x, rfl, h.symm⟩
theorem enumT_len (xs : List D) : (enumT xs).length = xs.length := by simp [enumT]
theorem ite_ok {G : Hp} {L : Lam} {s : Src} {a : Addr} (h1 : Stand k X.K G L s a true) : ItOk k X.K G L (Ite X.K a) ⟨enumT s.items, s.gd⟩ := by
  intro G2 H2 L2 μ ge le w ok i
  obtain ⟨vs, hs, ra⟩ := h1 G2 H2 L2 μ ge le w ok
  refine ⟨fun d hd => ?_, fun hl => ⟨vs, hs, by rw [enumT_len] at hl; rw [ra.len]; exact hl⟩⟩
  obtain ⟨dx, e1, rfl⟩ := enumT_get hd
  obtain ⟨v, hv, rv⟩ := ra.get e1
  refine ⟨⟨vs, v, hs, hv⟩, fun x H3 y => ?_⟩
  obtain ⟨T, x', rfl, hT, rfl, q1⟩ := y
  have z1 := q1 vs hs
  rw [hv] at z1
  cases z1
  exact two_new w hT (.int _) rv
theorem ji_enum {a : Expr} {ms : DEnv → M (List D)} {p tpos : Pos} {elts : List Expr} {kk : Nat} (hg : Gl X "enumerate") (hm : X.mg "enumerate" = none) (ha : JA k X E [a] ms) (hs : starEach [a] X.env = [(false, eval a X.env)] := by rfl) :
    JI k X E (.Tuple elts kk tpos) (.Call (.Name "enumerate" p) [a] [] pos) (iEnumD ms) := by
  refine PI.imp (pi_enum hg hm ha hs) fun s H R h => ?_
  obtain ⟨e, G, L, μ, sg, w, gd⟩ := h
  refine ⟨e, G, L, μ, sg, w, Good.mono (Good.bind gd) fun ds m1 G1 H1 L1 st1 w1 q1 vs r => ?_⟩
  match ds, r, q1 with
  | [], _, q1 => exact False.elim q1
  | [x], r, q1 =>
    obtain ⟨v, rfl, r1⟩ := one_of (H := H1) r
    have main : Good k X.K E G1 H1 L1 ((do let s ← srcD x; (pure ⟨enumT s.items, s.gd⟩ : M Src)) m1) (fun src _ G' H' L' => ∀ J, ItOk k X.K G' L' J src → R J H') → (∀ t, x ≠ .tup t) → ∃ a xs, [v] = [V.ref a] ∧ SqL X.K H1 a xs ∧ R (Ite X.K a) H1 := fun q1 nt => by
      obtain ⟨a, s, rfl, ⟨va, hva⟩, sa, q1⟩ := src_atK (f := fun s => (pure ⟨enumT s.items, s.gd⟩ : M Src)) r1 w1 q1
      have hx : notTup x = true := by
        cases x <;> first | rfl | exact absurd rfl (nt _)
      rw [hx] at hva sa
      exact ⟨a, va, rfl, hva, Good.ret q1 w1 _ (ite_ok sa)⟩
    cases x with
    | tup _ => exact False.elim q1
    | _ => exact main q1 fun _ z => nomatch z
  | x :: _ :: _, _, q1 => cases x <;> exact False.elim q1
end
end DL

namespace DL
open PySem L2 PyProof.Rows

/-! ### comprehensions -/
def wipeD (e : DEnv) : List Nat → DEnv
  | [] => e
  | v :: vs => (wipeD e vs).set v none
/-- no error leaves -/
def noX {α : Type} (x : M α) : M α := fun m => match x m with
  | .exn _ _ _ => .bad
  | r => r
def compL (src : Src) (g : D → DEnv → M DEnv) (t : DEnv → M Bool) (elt : DEnv → M D) (e : DEnv) : List D → M (List D)
  | [] => do chk src; pure []
  | d :: ds => do
    chk src
    let e1 ← noX (g d e)
    let b ← noX (t e1)
    if b then (do
      let y ← noX (elt e1)
      let ys ← compL src g t elt e ds
      pure (y :: ys)) else compL src g t elt e ds
def sizeOk (src : Src) : M Unit := fun m => if src.items.length ≤ 100000 then .ok () m else .bad
def compM (it : DEnv → M Src) (g : D → DEnv → M DEnv) (t : DEnv → M Bool) (elt : DEnv → M D) (vs : List Nat) : DEnv → M (List D) := fun e => do
  let src ← it e
  sizeOk src
  compL src g t elt (wipeD e vs) src.items
def eComp (it : DEnv → M Src) (g : D → DEnv → M DEnv) (t : DEnv → M Bool) (elt : DEnv → M D) (vs : List Nat) : DEnv → M D := fun e => do
  let ds ← compM it g t elt vs e
  pure (.lst ds)
def newL (ds : List D) : M D := fun m => .ok (.loc m.length) (m ++ [some (.lst ds)])
def eCompM (it : DEnv → M Src) (g : D → DEnv → M DEnv) (t : DEnv → M Bool) (elt : DEnv → M D) (vs : List Nat) : DEnv → M D := fun e => do
  let ds ← compM it g t elt vs e
  newL ds
def tYesD : DEnv → M Bool := fun _ => pure true

section
variable {k : Kx} {X : Cx} {E : XK} {tg iter elt : Expr} {pos : Pos}
theorem good_noX {α β : Type} {x : M α} {f : α → M β} {G H G2 H2 : Hp} {L L2 : Lam} {m : Store} {Q : β → Store → Hp → Hp → Lam → Prop} (h : Good k X.K E G H L ((noX x >>= f) m) Q) (st : Stp G H L G2 H2 L2) :
    Good k X.K E0 G2 H2 L2 (x m) (fun a m' _ _ _ => Good k X.K E G H L (f a m') Q) := by
  have h' : Good k X.K E G H L (M.bind (noX x) f m) Q := h
  unfold M.bind noX at h'
  cases e : x m with
  | ok a m' =>
    rw [e] at h'
    exact fun G' H' L' e1 w => h'
  | exn c fs m' =>
    rw [e] at h'
    exact False.elim h'
  | bad =>
    rw [e] at h'
    exact False.elim h'
theorem wipe_sg {s : L2.St} {e : DEnv} {G : Hp} {L : Lam} (h : Sg k X.K G L s e) : ∀ vs : List Nat, Sg k X.K G L (wipe s vs) (wipeD e vs)
  | [] => h
  | v :: vs => by
    obtain ⟨h1, h2⟩ := wipe_sg h vs
    unfold wipe wipeD
    refine ⟨by rw [List.length_set, List.length_set]; exact h1, fun i d q => ?_⟩
    by_cases hi : v = i
    · subst hi
      by_cases hl : v < (wipeD e vs).length
      · rw [List.getElem?_set_self hl] at q
        cases q
      · rw [List.getElem?_eq_none (by simpa using hl)] at q
        cases q
    · rw [List.getElem?_set_ne hi] at q ⊢
      exact h2 i d q
theorem wipe_get {s : L2.St} {i : Nat} : ∀ {vs : List Nat}, i ∉ vs → (wipe s vs)[i]? = s[i]?
  | [], _ => rfl
  | v :: vs, h => by
    simp only [List.mem_cons, not_or] at h
    unfold wipe
    rw [List.getElem?_set_ne (Ne.symm h.1), wipe_get h.2]
theorem wipe_mem {s : L2.St} {i : Nat} : ∀ {vs : List Nat}, i ∈ vs → (wipe s vs)[i]? = if i < s.length then some none else none
  | [], h => by cases h
  | v :: vs, h => by
    unfold wipe
    by_cases hv : v = i
    · subst hv
      by_cases hl : v < s.length
      · rw [if_pos hl, List.getElem?_set_self (by rw [wipe_length]; exact hl)]
      · rw [if_neg hl, List.getElem?_eq_none (by rw [List.length_set, wipe_length]; omega)]
    · rw [List.getElem?_set_ne hv]
      exact wipe_mem ((List.mem_cons.mp h).resolve_left (Ne.symm hv))
theorem wipe_agree {s s' : L2.St} {ts vs : List Nat} (hl : s'.length = s.length) (ag : ∀ i, i ∉ ts → s'[i]? = s[i]?) (sub : ∀ i ∈ ts, i ∈ vs) : wipe s' vs = wipe s vs := by
  apply List.ext_getElem?
  intro i
  by_cases hi : i ∈ vs
  · rw [wipe_mem hi, wipe_mem hi, hl]
  · rw [wipe_get hi, wipe_get hi]
    exact ag i fun z => hi (sub i z)
theorem wipe_twice {s : L2.St} {vs : List Nat} : wipe (wipe s vs) vs = wipe s vs := by
  apply List.ext_getElem?
  intro i
  by_cases hi : i ∈ vs
  · rw [wipe_mem hi, wipe_mem hi, wipe_length]
  · rw [wipe_get hi, wipe_get hi]
theorem sizeOk_good {β : Type} {src : Src} {f : Unit → M β} {G H : Hp} {L : Lam} {m : Store} {Q : β → Store → Hp → Hp → Lam → Prop} (h : Good k X.K E G H L ((sizeOk src >>= f) m) Q) : src.items.length ≤ 100000 ∧ Good k X.K E G H L (f () m) Q := by
  have h' : Good k X.K E G H L (M.bind (sizeOk src) f m) Q := h
  unfold M.bind sizeOk at h'
  by_cases hc : src.items.length ≤ 100000
  · rw [if_pos hc] at h'
    exact ⟨hc, h'⟩
  · rw [if_neg hc] at h'
    exact False.elim h'
theorem privS {G H G1 H1 : Hp} {L L1 : Lam} {a : Addr} {o : HO} (st : Stp G1 H1 L1 G H L) (ha : H1 a = none) : Stp G1 H1 L1 G (upd H a o) L where
  g := st.g
  l := st.l
  tr := fun x e => by
    by_cases hx : x = a
    · rw [hx]; exact ha
    · rw [upd_ne hx] at e
      exact st.tr x e
  keep := fun x u e n => by
    rw [upd_ne (ne_of_none e ha)]
    exact st.keep x u e n
  nl := st.nl
theorem lt_size {n : Nat} (h : n < 100000) : n < sizeLine := Nat.lt_of_lt_of_le h (by decide)
theorem good_assoc {α β γ : Type} {x : M α} {f : α → M β} {h : β → M γ} {G H : Hp} {L : Lam} {m : Store} {Q : γ → Store → Hp → Hp → Lam → Prop} (g : Good k X.K E G H L (((x >>= f) >>= h) m) Q) : Good k X.K E G H L ((x >>= fun a => f a >>= h) m) Q := by
  have e : ((x >>= f) >>= h) m = (x >>= fun a => f a >>= h) m := by
    show M.bind (M.bind x f) h m = M.bind x (fun a => M.bind (f a) h) m
    unfold M.bind
    cases x m <;> rfl
  rw [← e]
  exact g
theorem good_pureb {α β : Type} {a : α} {f : α → M β} {G H : Hp} {L : Lam} {m : Store} {Q : β → Store → Hp → Hp → Lam → Prop} (g : Good k X.K E G H L (((pure a : M α) >>= f) m) Q) : Good k X.K E G H L (f a m) Q := g
structure Pv (G H : Hp) (L : Lam) (a : Addr) (o : HO) : Prop where
  h : H a = some o
  g : G a = none
  n : ∀ p ∈ L, a ≠ p.1 ∧ a ≠ p.2
theorem Pv.step {G H G' H' : Hp} {L L' : Lam} {a : Addr} {o : HO} (p : Pv G H L a o) (st : Stp G H L G' H' L') : Pv G' H' L' a o := by
  obtain ⟨h1, h2⟩ := st.keep a o p.h p.n
  refine ⟨h1, h2 p.g, fun q hq => ?_⟩
  rcases st.nl q hq with z | ⟨z1, z2⟩
  · exact p.n q z
  · exact ⟨ne_of_none p.h z1, ne_of_none p.h z2⟩
/-- the core: what is done with the new list comes last -/
theorem comp_gen {β : Type} {mi : DEnv → M Src} {ts vs : List Nat} {g : D → DEnv → M DEnv} {mt : DEnv → M Bool} {me : DEnv → M D} {fin : List D → M β} {Q0 : β → Store → Hp → Hp → Lam → Prop} {s : L2.St} {H : Hp} {Q : VK} {e : DEnv} {G : Hp} {L : Lam} {μ : Store} (sub : ∀ i ∈ ts, i ∈ vs)
    (hfin : ∀ (G1 H1 : Hp) (L1 : Lam) (G' H' : Hp) (L' : Lam) (μ : Store) (Dl : Addr) (ws : List V) (ds : List D), Stp G H L G1 H1 L1 → Stp G1 H1 L1 G' H' L' → H1 Dl = none → Wd k X.K G' H' L' μ → Pv G' H' L' Dl (.lst ws) → RpA k X.K G' L' ws ds →
      Good k X.K E G1 H1 L1 (fin ds μ) Q0 → Q (.ref Dl) H') (sg : Sg k X.K G L s e) (w : Wd k X.K G H L μ) (gd : Good k X.K E G H L ((compM mi g mt me vs e >>= fin) μ) Q0) :
    tLc (dI k X.K E mi) (dG k X.K E0 ts g) (dT k X.K E0 mt) (dE k X.K E0 me) vs s H Q := by
  have gd1 := good_assoc gd
  refine ⟨e, G, L, μ, sg, w, Good.mono (Good.bind gd1) fun src m1 G1 H1 L1 st1 w1 q1 J ok Dl hD => ?_⟩
  have sg1 := wipe_sg (sg.mono st1.g st1.l) vs
  obtain ⟨hz, q1⟩ := sizeOk_good (good_assoc q1)
  have pv1 : Pv G1 (upd H1 Dl (.lst [])) L1 Dl (.lst []) := ⟨upd_same, w1.gnone hD, fun p hp => by
    obtain ⟨⟨o1, z1⟩, ⟨o2, z2⟩⟩ := w1.tk p hp
    exact ⟨Ne.symm (ne_of_none z1 hD), Ne.symm (ne_of_none z2 hD)⟩⟩
  refine ⟨fun i m H => m = src.items.length - i ∧ i ≤ src.items.length ∧ ∃ G L μ ws ds, Stp G1 H1 L1 G H L ∧ Wd k X.K G H L μ ∧ Pv G H L Dl (.lst ws) ∧ RpA k X.K G L ws ds ∧ ws.length ≤ i ∧
      Good k X.K E G1 H1 L1 ((do let rest ← compL src g mt me (wipeD e vs) (src.items.drop i); fin (ds ++ rest)) μ) Q0,
    ⟨src.items.length, by simp, Nat.zero_le _, G1, L1, m1, [], [], junkS hD, w1.junk hD, pv1, .nil, Nat.zero_le _, by simpa using q1⟩, ?_⟩
  rintro i m H2 ⟨rfl, hi, G2, L2, μ2, ws, ds, st2, w2, pv2, ra, hl, q2⟩
  by_cases hlt : i < src.items.length
  · have hd : src.items.drop i = src.items[i] :: src.items.drop (i + 1) := List.drop_eq_getElem_cons hlt
    rw [hd] at q2
    obtain ⟨hok, q2⟩ := chk_good (good_assoc q2)
    obtain ⟨ho, _⟩ := ok G2 H2 L2 μ2 st2.g st2.l w2 hok i
    obtain ⟨go, yl⟩ := ho src.items[i] (List.getElem?_eq_getElem hlt)
    refine .inr ⟨go, fun H => ∃ G L μ ws ds, Stp G1 H1 L1 G H L ∧ Wd k X.K G H L μ ∧ Pv G H L Dl (.lst ws) ∧ RpA k X.K G L ws ds ∧ ws.length ≤ i + 1 ∧
      Good k X.K E G1 H1 L1 ((do let rest ← compL src g mt me (wipeD e vs) (src.items.drop (i + 1)); fin (ds ++ rest)) μ) Q0, fun H' q => ⟨src.items.length - (i + 1), by omega, rfl, hlt, q⟩, fun x H3 y => ?_⟩
    obtain ⟨G3, st3, w3, r3⟩ := yl x H3 y
    have s13 := st2.trans st3
    refine ⟨src.items[i], wipeD e vs, G3, L2, μ2, sg1.mono s13.g s13.l, r3, w3, Good.mono (good_noX (good_assoc q2) s13) fun e4 m4 G4 H4 L4 st4 w4 q4 s4 sg4 ag => ⟨?_, ?_⟩⟩
    · rw [wipe_agree ag.1 ag.2 sub, wipe_twice]
    · have s14 := s13.trans st4
      refine ⟨e4, G4, L4, m4, sg4, w4, Good.mono (good_noX (good_assoc q4) s14) fun b m5 G5 H5 L5 st5 w5 q5 => ?_⟩
      have s15 := s14.trans st5
      have ra5 := RpA.mono ((st3.g.trans st4.g).trans st5.g) ((st3.l.trans st4.l).trans st5.l) _ _ ra
      have pv5 := ((pv2.step st3).step st4).step st5
      cases b with
      | false => exact ⟨G5, L5, m5, ws, ds, s15, w5, pv5, ra5, Nat.le_succ_of_le hl, q5⟩
      | true =>
        refine ⟨e4, G5, L5, m5, sg4.mono st5.g st5.l, w5, Good.mono (good_noX (good_assoc q5) s15) fun d6 m6 G6 H6 L6 st6 w6 q6 v6 r6 => ?_⟩
        have pv6 := pv5.step st6
        refine ⟨ws, pv6.h, lt_size (by omega), G6, L6, m6, ws ++ [v6], ds ++ [d6], privS (s15.trans st6) hD, w6.priv pv6.g pv6.n, ⟨upd_same, pv6.g, pv6.n⟩, (RpA.mono st6.g st6.l _ _ ra5).append (.cons r6 .nil), by simp; omega, ?_⟩
        have q7 := good_assoc q6
        have e7 : (fun rest => fin (ds ++ [d6] ++ rest)) = fun rest => fin (ds ++ d6 :: rest) := by
          funext rest
          simp
        rw [e7]
        exact q7
  · have e0 : i = src.items.length := by omega
    subst e0
    rw [List.drop_length] at q2
    obtain ⟨hok, q2⟩ := chk_good (good_assoc q2)
    obtain ⟨_, stp⟩ := ok G2 H2 L2 μ2 st2.g st2.l w2 hok src.items.length
    have q3 := good_pureb q2
    rw [List.append_nil] at q3
    exact .inl ⟨stp (Nat.le_refl _), hfin G1 H1 L1 G2 H2 L2 μ2 Dl ws ds st1 st2 hD w2 pv2 ra q3⟩
theorem comp_core {mi : DEnv → M Src} {ts vs : List Nat} {g : D → DEnv → M DEnv} {mt : DEnv → M Bool} {me : DEnv → M D} {fin : List D → M D} (sub : ∀ i ∈ ts, i ∈ vs)
    (hfin : ∀ (G1 H1 : Hp) (L1 : Lam) (G H : Hp) (L : Lam) (μ : Store) (Dl : Addr) (ws : List V) (ds : List D) (Q : VK), Stp G1 H1 L1 G H L → H1 Dl = none → Wd k X.K G H L μ → Pv G H L Dl (.lst ws) → RpA k X.K G L ws ds →
      Good k X.K E G1 H1 L1 (fin ds μ) (QV k X.K Q) → Q (.ref Dl) H) {s : L2.St} {H : Hp} {Q : VK} (h : dE k X.K E (fun e => do let ds ← compM mi g mt me vs e; fin ds) s H Q) :
    tLc (dI k X.K E mi) (dG k X.K E0 ts g) (dT k X.K E0 mt) (dE k X.K E0 me) vs s H Q := by
  obtain ⟨e, G, L, μ, sg, w, gd⟩ := h
  exact comp_gen sub (fun G1 H1 L1 G' H' L' μ Dl ws ds _ st hD w pv ra g => hfin G1 H1 L1 G' H' L' μ Dl ws ds Q st hD w pv ra g) sg w gd
theorem adoptS {G H G1 H1 : Hp} {L L1 : Lam} {a : Addr} {o : HO} (st : Stp G1 H1 L1 G H L) (ha : H1 a = none) (ga : G a = none) : Stp G1 H1 L1 (upd G a o) H L where
  g := st.g.trans (Same.new ga)
  l := st.l
  tr := st.tr
  keep := fun x u e n => by
    obtain ⟨h1, h2⟩ := st.keep x u e n
    exact ⟨h1, fun z => by rw [upd_ne (ne_of_none e ha)]; exact h2 z⟩
  nl := st.nl
theorem adoptLocS {G H G1 H1 : Hp} {L L1 : Lam} {a : Addr} (st : Stp G1 H1 L1 G H L) (ha : H1 a = none) : Stp G1 H1 L1 G H (L ++ [(a, a)]) where
  g := st.g
  l := st.l.trans (List.prefix_append _ _)
  tr := st.tr
  keep := st.keep
  nl := fun p hp => by
    rcases List.mem_append.mp hp with z | z
    · exact st.nl p z
    · simp at z
      subst z
      exact .inr ⟨ha, ha⟩
theorem fin_lst {E : XK} (G1 H1 : Hp) (L1 : Lam) (G H : Hp) (L : Lam) (μ : Store) (Dl : Addr) (ws : List V) (ds : List D) (Q : VK) (st : Stp G1 H1 L1 G H L) (hD : H1 Dl = none) (w : Wd k X.K G H L μ) (pv : Pv G H L Dl (.lst ws)) (ra : RpA k X.K G L ws ds)
    (g : Good k X.K E G1 H1 L1 ((pure (.lst ds) : M D) μ) (QV k X.K Q)) : Q (.ref Dl) H :=
  g _ _ _ (adoptS st hD pv.g) (w.adopt pv.g pv.h pv.n) _ (.lst (SqL.of upd_same) (RpA.mono (Same.new pv.g) (pre_refl L) _ _ ra))
theorem fin_loc {E : XK} (G1 H1 : Hp) (L1 : Lam) (G H : Hp) (L : Lam) (μ : Store) (Dl : Addr) (ws : List V) (ds : List D) (Q : VK) (st : Stp G1 H1 L1 G H L) (hD : H1 Dl = none) (w : Wd k X.K G H L μ) (pv : Pv G H L Dl (.lst ws)) (ra : RpA k X.K G L ws ds)
    (g : Good k X.K E G1 H1 L1 (newL ds μ) (QV k X.K Q)) : Q (.ref Dl) H :=
  g _ _ _ (adoptLocS st hD) (w.adoptLoc pv.g pv.h pv.n ra) _ (.loc (a := Dl) (b := Dl) (by rw [← w.len]; simp))
section
variable {mi : DEnv → M Src} {ts : List Nat} {g : D → DEnv → M DEnv} {mt : DEnv → M Bool} {me : DEnv → M D} {ifs : List Expr} {scope : Scope} {own : List (Str × Nat)}
theorem jts_nil {X : Cx} : PTs X [] (dT k X.K E tYesD) := by
  have h := pts_nil (X := X)
  refine ⟨fun pins s σ H Q I hw => h.run pins s σ H Q I ?_⟩
  obtain ⟨e, G, L, μ, sg, w, gd⟩ := hw
  exact Good.ret gd w
theorem jts_one {X : Cx} {c : Expr} {mt : DEnv → M Bool} (h : JT k X E c mt) : PTs X [c] (dT k X.K E mt) := pts_one h
theorem j_comp (sub : ∀ i ∈ ts, i ∈ own.map (·.2)) (hc : X.calm = true) (hN : X.N.Nodup) (hi : JI k X E tg iter mi) (ok : BlkOk X.N X.env.scope scope own)
    (hg : ∀ (s : Shared) (H : Hp) (C : Addr) (cl : List (Str × Addr)) (fp : List Addr), JG k (X.blk s H scope (compEnvC scope cl C X.env) fp) E0 tg ts g)
    (ht : ∀ (s : Shared) (H : Hp) (C : Addr) (cl : List (Str × Addr)) (fp : List Addr), PTs (X.blk s H scope (compEnvC scope cl C X.env) fp) ifs (dT k X.K E0 mt))
    (he : ∀ (s : Shared) (H : Hp) (C : Addr) (cl : List (Str × Addr)) (fp : List Addr), JE k (X.blk s H scope (compEnvC scope cl C X.env) fp) E0 elt me) (hs : ∀ x, foldedSetIterable iter X.env x = pure x := by intro _; rfl) :
    JE k X E (.ListComp elt [⟨tg, iter, ifs, 0⟩] scope pos) (eComp mi g mt me (own.map (·.2))) :=
  PE.imp (pe_lc hc hN hi ok hg ht he hs) fun s H Q h => comp_core sub fin_lst h
theorem j_compM (sub : ∀ i ∈ ts, i ∈ own.map (·.2)) (hc : X.calm = true) (hN : X.N.Nodup) (hi : JI k X E tg iter mi) (ok : BlkOk X.N X.env.scope scope own)
    (hg : ∀ (s : Shared) (H : Hp) (C : Addr) (cl : List (Str × Addr)) (fp : List Addr), JG k (X.blk s H scope (compEnvC scope cl C X.env) fp) E0 tg ts g)
    (ht : ∀ (s : Shared) (H : Hp) (C : Addr) (cl : List (Str × Addr)) (fp : List Addr), PTs (X.blk s H scope (compEnvC scope cl C X.env) fp) ifs (dT k X.K E0 mt))
    (he : ∀ (s : Shared) (H : Hp) (C : Addr) (cl : List (Str × Addr)) (fp : List Addr), JE k (X.blk s H scope (compEnvC scope cl C X.env) fp) E0 elt me) (hs : ∀ x, foldedSetIterable iter X.env x = pure x := by intro _; rfl) :
    JE k X E (.ListComp elt [⟨tg, iter, ifs, 0⟩] scope pos) (eCompM mi g mt me (own.map (·.2))) :=
  PE.imp (pe_lc hc hN hi ok hg ht he hs) fun s H Q h => comp_core sub fin_loc h
/-- name = [..]: the comprehension stores into the name within its own frame -/
def sSetC (i : Nat) (a : DEnv → M D) : DEnv → M Out := sSet i a
theorem js_setC {i : Nat} {y : Str} {py spos : Pos} {fin : List D → M D}
    (hfin : ∀ (G1 H1 : Hp) (L1 : Lam) (G H : Hp) (L : Lam) (μ : Store) (Dl : Addr) (ws : List V) (ds : List D) (Q : VK), Stp G1 H1 L1 G H L → H1 Dl = none → Wd k X.K G H L μ → Pv G H L Dl (.lst ws) → RpA k X.K G L ws ds → Good k X.K E G1 H1 L1 (fin ds μ) (QV k X.K Q) → Q (.ref Dl) H)
    (sub : ∀ i ∈ ts, i ∈ own.map (·.2)) (hc : X.calm = true) (hN : X.N.Nodup) (hy : X.N[i]? = some y) (hyl : X.env.scope.names.lookup y = some .local)
    (hsw : swapsWith (.ListComp elt [⟨tg, iter, ifs, 0⟩] scope pos) (some (.Name y py)) spos.line X.env = pure true) (hi : JI k X E tg iter mi) (ok : BlkOk X.N X.env.scope scope own)
    (hg : ∀ (s : Shared) (H : Hp) (C : Addr) (cl : List (Str × Addr)) (fp : List Addr), JG k (X.blk s H scope (compEnvC scope cl C X.env) fp) E0 tg ts g)
    (ht : ∀ (s : Shared) (H : Hp) (C : Addr) (cl : List (Str × Addr)) (fp : List Addr), PTs (X.blk s H scope (compEnvC scope cl C X.env) fp) ifs (dT k X.K E0 mt))
    (he : ∀ (s : Shared) (H : Hp) (C : Addr) (cl : List (Str × Addr)) (fp : List Addr), JE k (X.blk s H scope (compEnvC scope cl C X.env) fp) E0 elt me) (hs : ∀ x, foldedSetIterable iter X.env x = pure x := by intro _; rfl) :
    JS k X E (.Assign [.Name y py] (.ListComp elt [⟨tg, iter, ifs, 0⟩] scope pos) spos) (sSet i (fun e => do let ds ← compM mi g mt me (own.map (·.2)) e; fin ds)) := by
  refine PS.imp (ps_setLc (g := dG k X.K E0 ts g) (te := dE k X.K E0 me) hc hN hy hyl hsw hi ok hg ht he hs) fun D s H h => ?_
  refine comp_core (fin := fin) sub hfin ?_
  obtain ⟨e, G, L, μ, sg, w, gd⟩ := h
  refine ⟨e, G, L, μ, sg, w, Good.mono (Good.bind gd) fun d m1 G1 H1 L1 st1 w1 q1 v r => ?_⟩
  exact Good.ret q1 w1 _ ((sg.mono st1.g st1.l).set i r)
end
end
end DL

namespace DL
open PySem L2 PyProof.Rows

/-! ### locations below a number -/
mutual
def D.und (n : Nat) : D → Bool
  | .lst ds => D.undL n ds
  | .tup ds => D.undL n ds
  | .loc i => decide (i < n)
  | .obj _ ds => D.undL n ds
  | _ => true
def D.undL (n : Nat) : List D → Bool
  | [] => true
  | d :: ds => d.und n && D.undL n ds
end
def undO (n : Nat) : List (Option D) → Bool
  | [] => true
  | some d :: r => d.und n && undO n r
  | none :: r => undO n r
def Cell.und (n : Nat) : Cell → Bool
  | .lst ds => D.undL n ds
  | .ins _ ss => undO n ss
instance : DecidableEq Cell := fun a b => match a, b with
  | .lst x, .lst y => if h : x = y then .isTrue (by rw [h]) else .isFalse (by intro z; cases z; exact h rfl)
  | .ins c x, .ins d y => if h : c = d ∧ x = y then .isTrue (by rw [h.1, h.2]) else .isFalse (by intro z; cases z; exact h ⟨rfl, rfl⟩)
  | .lst _, .ins _ _ => .isFalse nofun
  | .ins _ _, .lst _ => .isFalse nofun

section
variable {k : Kx} {K : PySem.W.Frag} {G G' : Hp} {L L' : Lam}
mutual
theorem Rp.lower (e : L <+: L') : ∀ (d : D) (v : V), Rp k K G L' v d → d.und L.length = true → Rp k K G L v d
  | .non, _, h, _ => by cases h; exact .non
  | .bl b, _, h, _ => by cases h; exact .bl b
  | .int i, _, h, _ => by cases h; exact .int i
  | .str i, _, h, _ => by cases h; exact .str i
  | .lst ds, _, h, b => by
    cases h with
    | lst hs ha => exact .lst hs (RpA.lower e ds _ ha (by simpa [D.und] using b))
  | .tup ds, _, h, b => by
    cases h with
    | tup hs ha => exact .tup hs (RpA.lower e ds _ ha (by simpa [D.und] using b))
  | .loc n, _, h, b => by
    cases h with
    | loc hn =>
      have hl : n < L.length := by simpa [D.und] using b
      obtain ⟨t, rfl⟩ := e
      rw [List.getElem?_append_left hl] at hn
      exact .loc hn
  | .obj c ds, _, h, b => by
    cases h with
    | obj hs ha => exact .obj hs (RpA.lower e ds _ ha (by simpa [D.und] using b))
  | .cls c, _, h, _ => by cases h; exact .cls c
theorem RpA.lower (e : L <+: L') : ∀ (ds : List D) (vs : List V), RpA k K G L' vs ds → D.undL L.length ds = true → RpA k K G L vs ds
  | [], _, h, _ => by cases h; exact .nil
  | d :: ds, _, h, b => by
    cases h with
    | cons h1 h2 =>
      have b' : d.und L.length = true ∧ D.undL L.length ds = true := by simpa [D.undL] using b
      exact .cons (Rp.lower e d _ h1 b'.1) (RpA.lower e ds _ h2 b'.2)
end
mutual
theorem Rp.und : ∀ (d : D) (v : V), Rp k K G L v d → d.und L.length = true
  | .non, _, _ => rfl
  | .bl _, _, _ => rfl
  | .int _, _, _ => rfl
  | .str _, _, _ => rfl
  | .lst ds, _, h => by
    cases h with
    | lst hs ha => simpa [D.und] using RpA.und ds _ ha
  | .tup ds, _, h => by
    cases h with
    | tup hs ha => simpa [D.und] using RpA.und ds _ ha
  | .loc n, _, h => by
    cases h with
    | loc hn => simpa [D.und] using (List.getElem?_eq_some_iff.mp hn).1
  | .obj c ds, _, h => by
    cases h with
    | obj hs ha => simpa [D.und] using RpA.und ds _ ha
  | .cls _, _, _ => rfl
theorem RpA.und : ∀ (ds : List D) (vs : List V), RpA k K G L vs ds → D.undL L.length ds = true
  | [], _, _ => rfl
  | d :: ds, _, h => by
    cases h with
    | cons h1 h2 => simp [D.undL, Rp.und d _ h1, RpA.und ds _ h2]
end
theorem undO_get {n : Nat} : ∀ {ss : List (Option D)} {i : Nat} {d : D}, undO n ss = true → ss[i]? = some (some d) → d.und n = true
  | [], i, d, _, h => by simp at h
  | o :: ss, 0, d, b, h => by
    simp at h
    subst h
    have : d.und n = true ∧ undO n ss = true := by simpa [undO] using b
    exact this.1
  | o :: ss, i + 1, d, b, h => by
    have hb : undO n ss = true := by
      cases o with
      | none => simpa [undO] using b
      | some x =>
        have : x.und n = true ∧ undO n ss = true := by simpa [undO] using b
        exact this.2
    exact undO_get (i := i) hb (by simpa using h)
theorem undO_of {n : Nat} : ∀ {ss : List (Option D)}, (∀ (i : Nat) (d : D), ss[i]? = some (some d) → d.und n = true) → undO n ss = true
  | [], _ => rfl
  | o :: ss, h => by
    have hr : undO n ss = true := undO_of fun i d e => h (i + 1) d (by simpa using e)
    cases o with
    | none => simpa [undO] using hr
    | some x => simp [undO, hr, h 0 x (by simp)]
theorem CellR.und {H : Hp} {a b : Addr} {c : Cell} (r : CellR k K G H L a b c) : c.und L.length = true := by
  cases c with
  | lst ds =>
    obtain ⟨_, vs, _, ra⟩ := r
    exact RpA.und ds vs ra
  | ins c ss =>
    obtain ⟨vs, _, q, _⟩ := r
    exact undO_of fun i d e => let ⟨v, _, rv⟩ := q.2 i d e; Rp.und d v rv
theorem CellR.lower {H : Hp} {a b : Addr} {c : Cell} (e : L <+: L') (r : CellR k K G H L' a b c) (hb : c.und L.length = true) : CellR k K G H L a b c := by
  cases c with
  | lst ds =>
    obtain ⟨e1, vs, h, ra⟩ := r
    exact ⟨e1, vs, h, RpA.lower e ds vs ra hb⟩
  | ins c ss =>
    obtain ⟨vs, h, q, r⟩ := r
    exact ⟨vs, h, ⟨q.1, fun i d z => let ⟨v, x, rv⟩ := q.2 i d z; ⟨v, x, Rp.lower e d v rv (undO_get hb z)⟩⟩, r⟩
end

/-! ### dropping dead locations -/
def cellKept (n : Nat) (p : Option Cell × Option Cell) : Bool := decide (p.1 = p.2) || (match p.1 with | some c => c.und n | none => true)
def trimOk (m m' : Store) : Bool := (m'.drop m.length).all Option.isNone && (decide (m.length ≤ m'.length) && ((m'.take m.length).zip m).all (cellKept m.length))
def scopeM (x : M D) : M D := fun m => match x m with
  | .ok d m' => if (trimOk m m' && d.und m.length) = true then .ok d (m'.take m.length) else .ok d m'
  | r => r
section
variable {k : Kx} {X : Cx} {E : XK}
theorem scope_good {x : M D} {G H : Hp} {L : Lam} {μ : Store} {Q : VK} (w : Wd k X.K G H L μ) (g : Good k X.K E G H L (scopeM x μ) (QV k X.K Q)) : Good k X.K E G H L (x μ) (QV k X.K Q) := by
  unfold scopeM at g
  cases e : x μ with
  | exn c fs m => rw [e] at g; exact g
  | bad => rw [e] at g; exact g
  | ok d m' =>
    rw [e] at g
    simp only at g
    by_cases hc : (trimOk μ m' && d.und μ.length) = true
    · rw [if_pos hc] at g
      obtain ⟨ht, hd⟩ := Bool.and_eq_true_iff.mp hc
      unfold trimOk at ht
      obtain ⟨t1, ht⟩ := Bool.and_eq_true_iff.mp ht
      obtain ⟨t2, t3⟩ := Bool.and_eq_true_iff.mp ht
      have t2 := of_decide_eq_true t2
      intro G' H' L' st w' v r
      have hp : L <+: L' := st.l
      have live : ∀ i, Live (m'.take μ.length) i → i < μ.length ∧ Live m' i := fun i hi => by
        obtain ⟨c, hc⟩ := hi
        have hl := (List.getElem?_eq_some_iff.mp hc).1
        rw [List.length_take] at hl
        rw [List.getElem?_take_of_lt (by omega)] at hc
        exact ⟨by omega, c, hc⟩
      have getL : ∀ {i : Nat} {p : Addr × Addr}, i < μ.length → L'[i]? = some p → L[i]? = some p := fun {i p} hi h => by
        obtain ⟨t, rfl⟩ := hp
        rw [List.getElem?_append_left (by rw [w.len]; exact hi)] at h
        exact h
      have w2 : Wd k X.K G' H' L (m'.take μ.length) := by
        refine ⟨w'.ext, by rw [List.length_take, w.len]; omega, fun p hp' => w'.tk p (by obtain ⟨t, rfl⟩ := hp; exact List.mem_append_left _ hp'), fun n c hn => ?_, fun i j a b a' b' li lj ne ha hb => ?_⟩
        · obtain ⟨hl, _⟩ := live n ⟨c, hn⟩
          have hn' : m'[n]? = some (some c) := by
            rw [List.getElem?_take_of_lt hl] at hn
            exact hn
          obtain ⟨a, b, h1, h2, h3, r'⟩ := w'.cell n c hn'
          refine ⟨a, b, getL hl h1, h2, h3, r'.lower hp ?_⟩
          rw [w.len]
          have hz : ((m'.take μ.length).zip μ)[n]? = some (some c, μ[n]) := by
            rw [List.getElem?_zip_eq_some]
            exact ⟨hn, List.getElem?_eq_getElem hl⟩
          have hk := List.all_eq_true.mp t3 _ (List.mem_of_getElem? hz)
          unfold cellKept at hk
          rcases (Bool.or_eq_true_iff.mp hk) with q | q
          · have q' : some c = μ[n] := of_decide_eq_true q
            have hm : μ[n]? = some (some c) := by rw [List.getElem?_eq_getElem hl, ← q']
            obtain ⟨_, _, _, _, _, r0⟩ := w.cell n c hm
            have := r0.und
            rw [w.len] at this
            exact this
          · exact q
        · exact w'.apart i j a b a' b' (live i li).2 (live j lj).2 ne (pre_get hp ha) (pre_get hp hb)
      refine g G' H' L ⟨st.g, pre_refl L, st.tr, st.keep, fun p h => .inl h⟩ w2 v (Rp.lower hp d v r ?_)
      rw [w.len]
      exact hd
    · rw [if_neg hc] at g
      exact g

/-! ### what a def promises -/
def spD (k : Kx) (K : PySem.W.Frag) (n : Nat) (den : List D → M D) : Sp := fun vs H Q E => ∃ ds G L μ, RpA k K G L vs ds ∧ ds.length = n ∧ Wd k K G H L μ ∧ Good k K E G H L (den ds μ) (QV k K Q)
def startD (n : Nat) (ds : List D) : DEnv := ds.map some ++ List.replicate (n - ds.length) none
def runB (x : M Out) : M D := do
  let o ← x
  match o with
    | .nx _ => pure .non
    | .rt d => pure d
    | _ => M.bad
/-- the denotation of a def: N slots, its body -/
def fnD (n : Nat) (body : DEnv → M Out) : List D → M D := fun ds => scopeM (runB (body (startD n ds)))
theorem start_sg {k : Kx} {K : PySem.W.Frag} {G : Hp} {L : Lam} {N : List Str} {vs : List V} {ds : List D} (r : RpA k K G L vs ds) : Sg k K G L (start N vs) (startD N.length ds) := by
  unfold L2.start startD
  refine ⟨by simp [r.len], fun i d h => ?_⟩
  by_cases hi : i < ds.length
  · rw [List.getElem?_append_left (by simpa using hi), List.getElem?_map] at h
    cases e : ds[i]? with
    | none => rw [e] at h; cases h
    | some d' =>
      rw [e] at h
      cases h
      obtain ⟨v, hv, rv⟩ := r.get e
      refine ⟨v, ?_, rv⟩
      rw [List.getElem?_append_left (by rw [List.length_map, r.len]; exact hi), List.getElem?_map, hv]
      rfl
  · rw [List.getElem?_append_right (by simpa using hi), List.getElem?_replicate] at h
    split at h <;> cases h
section
variable {P : Program} {w : World} {K : PySem.W.Frag} {mg : Str → Option Value} {base : Heap}
theorem fn_ok {x qual : Str} {st : Stmt} {f : Addr} {fd : FuncData} {N ps : List Str} {lvl : Nat} {m : DEnv → M Out} (F : Fun K x qual st f fd) (S : FnScope N ps (defScope st))
    (hb : ∀ (cdv : Value) (A : Around) (outer : List Env) (s : Shared) (H : Hp) (E : XK), Room lvl (A.deeper (envOfC qual (defScope st) s.heap.objs.size f cdv)) → JB k (cxOf (L2.CX P w) P w K mg base N qual (defScope st) f cdv A outer s H E) E (defBody st) m) :
    FnOk P w K mg base (L2.CX P w) (lvl + 1) f fd ps (spD k K ps.length (fnD N.length m)) := by
  refine Fun.okX F S (fun vs H Q E h => ?_) (fun cdv A outer s H vs Q E hr h => ?_)
  · obtain ⟨ds, G, L, μ, r, hl, _⟩ := h
    rw [r.len, hl]
  · obtain ⟨ds, G, L, μ, r, hl, w0, g⟩ := h
    refine ⟨_, hb cdv A outer s H E hr, ?_⟩
    have g1 := scope_good (X := cxOf (L2.CX P w) P w K mg base N qual (defScope st) f cdv A outer s H E) w0 g
    refine ⟨startD N.length ds, G, L, μ, start_sg r, w0, Good.mono (Good.bind g1) fun o m1 G1 H1 L1 st1 w1 q1 => ?_⟩
    cases o with
    | nx e => exact fun s1 _ => Good.ret q1 w1 _ .non
    | rt d => exact fun v rv => Good.ret q1 w1 v rv
    | bk e => exact False.elim q1
    | ct e => exact False.elim q1
end
/-! ### calls -/
def callN (n : Nat) (den : List D → M D) (ds : List D) : M D := if ds.length = n then den ds else M.bad
abbrev FnDn (k : Kx) (X : Cx) (lvl : Nat) (f : Addr) (n : Nat) (den : List D → M D) : Prop := FnR X.prog X.w X.K X.mg X.base (L2.CX X.prog X.w) lvl f (spD k X.K n den)
theorem j_call {x : Str} {p pos : Pos} {a : Expr} {es : List Expr} {ms : DEnv → M (List D)} {lvl : Nat} {f : Addr} {n : Nat} {den : List D → M D} (F : FnDn k X lvl f n den) (hr : Room lvl X.A) (hx : Passes (L2.CX X.prog X.w) X E) (hg : Gl X x) (hm : X.mg x = some (.ref f))
    (hk : PySem.W.keepIn X.K (.ref f) = true) (ha : JA k X E (a :: es) ms) (hdb : (x == ("__debug__" : Str)) = false := by decide) (he : starEach (a :: es) X.env = (false, eval a X.env) :: starEach es X.env := by rfl) (hpl : (backTo pos (starEach es X.env)).any (·.1) = false := by rfl) :
    JE k X E (.Call (.Name x p) (a :: es) [] pos) (eCallB (callN n den) ms) := by
  refine ⟨fun pins s σ H Q I h => ?_⟩
  refine wpAny_Call_Name_kw (ld_glob I hg hm ?_ hdb)
  obtain ⟨e, G, L, μ, sg, w, gd⟩ := h
  have h' : dA k X.K E ms σ H fun vs H1 => spD k X.K n den vs H1 Q E := ⟨e, G, L, μ, sg, w, Good.mono (Good.bind gd) fun ds m1 G1 H1 L1 st1 w1 q1 vs r => by
    obtain ⟨hl, q1⟩ := good_ite q1
    exact ⟨ds, G1, L1, m1, r, hl, w1, q1⟩⟩
  refine PySem.W.callWith_K (h₀ := X.base) I.ok.mod.kin hk (thn (ha.run pos pins s σ H _ I h') fun us s1 ⟨vs, H1, I1, r, q⟩ => ⟨I1.kIn, ?_⟩) he hpl
  exact wpAny_call (run_fnR F hr hx I1 r q)
theorem j_call0 {x : Str} {p pos : Pos} {lvl : Nat} {f : Addr} {n : Nat} {den : List D → M D} (F : FnDn k X lvl f n den) (hr : Room lvl X.A) (hx : Passes (L2.CX X.prog X.w) X E) (hg : Gl X x) (hm : X.mg x = some (.ref f))
    (hk : PySem.W.keepIn X.K (.ref f) = true) (hdb : (x == ("__debug__" : Str)) = false := by decide) :
    JE k X E (.Call (.Name x p) [] [] pos) (eCallB (callN n den) aNil) := by
  refine ⟨fun pins s σ H Q I h => ?_⟩
  refine wpAny_Call_Name_kw (ld_glob I hg hm ?_ hdb)
  obtain ⟨e, G, L, μ, sg, w, gd⟩ := h
  obtain ⟨hl, q1⟩ := good_ite (good_pureb gd)
  exact PySem.W.callWith_K0 I.kIn hk (wpAny_call (run_fnR (us := []) (vs := []) F hr hx I .nil ⟨[], G, L, μ, .nil, hl, w, q1⟩))
end
end DL

namespace DL
open PySem L2 PyProof.Rows

/-! ### isinstance -/
inductive Kd where
  | non | bl | int | str | lst | tup | obj (c : Nat)
  deriving DecidableEq
inductive Ty where
  | int | bool | str | lst | tup | seq | cls (c : Nat)
  deriving DecidableEq
def isK : Ty → Kd → Bool
  | .int, .int => true
  | .int, .bl => true
  | .bool, .bl => true
  | .str, .str => true
  | .lst, .lst => true
  | .tup, .tup => true
  | .seq, .lst => true
  | .seq, .tup => true
  | .cls c, .obj c' => decide (c = c')
  | _, _ => false
def kindOf (cs : List Nat) (d : D) (m : Store) : Option Kd := match d with
  | .non => some .non
  | .bl _ => some .bl
  | .int _ => some .int
  | .str _ => some .str
  | .lst _ => some .lst
  | .tup _ => some .tup
  | .cls _ => none
  | .obj c _ => if c ∈ cs then some (.obj c) else none
  | .loc n => match m[n]? with
    | some (some (.lst _)) => some .lst
    | _ => none
def isiD (cs : List Nat) (t : Ty) (d : D) : M D := fun m => match kindOf cs d m with
  | some kd => .ok (.bl (isK t kd)) m
  | none => .bad
def nmK : Kd → String
  | .non => "NoneType"
  | .bl => "bool"
  | .int => "int"
  | .str => "str"
  | .lst => "list"
  | .tup => "tuple"
  | .obj _ => ""
def tyNm : Ty → String
  | .int => "int"
  | .bool => "bool"
  | .str => "str"
  | .lst => "list"
  | .tup => "tuple"
  | _ => ""
section
variable {k : Kx} {X : Cx} {E : XK}
theorem tyx_of {cs : List Nat} {d : D} {x : V} {kd : Kd} {G H : Hp} {L : Lam} {μ : Store} (r : Rp k X.K G L x d) (w : Wd k X.K G H L μ) (h : kindOf cs d μ = some kd) (no : ∀ c, kd ≠ .obj c) : TyX X.K H x (.type (nmK kd)) := by
  have lst : ∀ {a : Addr} {xs : List V}, SqL X.K H a xs → TyX X.K H (.ref a) (.type "list") := fun {a xs} hs => by
    rcases hs with (hs | ⟨o, hs⟩) | ⟨o, its, n, hk, hc, _⟩
    · exact .base (.lst hs)
    · exact .base (.frz hs)
    · exact .kList hk hc
  have tup : ∀ {a : Addr} {xs : List V}, SqT X.K H a xs → TyX X.K H (.ref a) (.type "tuple") := fun {a xs} hs => by
    rcases hs with (hs | ⟨o, hs⟩) | ⟨o, its, n, hk, hc, _⟩
    · exact .base (.tup hs)
    · exact .fTuple hs
    · exact .kTuple hk hc
  cases d with
  | non => cases r; cases h; exact .base .non
  | bl b => cases r; cases h; exact .base (.bl b)
  | int i => cases r; cases h; exact .base (.int i)
  | str s => cases r; cases h; exact .base (.str s)
  | lst ds =>
    cases h
    cases r with
    | lst hs ha => exact lst (w.ext.seq hs)
  | tup ds =>
    cases h
    cases r with
    | tup hs ha => exact tup (sqT_mono w.ext hs)
  | loc n =>
    simp only [kindOf] at h
    cases hm : μ[n]? with
    | none => rw [hm] at h; cases h
    | some o =>
      cases o with
      | none => rw [hm] at h; cases h
      | some c =>
        cases c with
        | ins _ _ => rw [hm] at h; cases h
        | lst ds =>
          rw [hm] at h
          cases h
          obtain ⟨a, vs, rfl, _, _, hh, _⟩ := w.look hm r
          exact lst (SqL.of hh)
  | cls c => cases h
  | obj c ds =>
    simp only [kindOf] at h
    by_cases hc : c ∈ cs
    · rw [if_pos hc] at h
      cases h
      exact absurd rfl (no c)
    · rw [if_neg hc] at h
      cases h
/-- what is to be known of the law's classes for isinstance with the class value u -/
structure IsiF (k : Kx) (K : PySem.W.Frag) (cs : List Nat) (t : Ty) (u : Value) : Prop where
  ob : ∀ c ∈ cs, SlX.SCls K (k.cl c) ∧ SlX.SIsi K (k.cl c) ∧ PySem.W.kitOne K (.ref (k.cl c)) u = some (isK t (.obj c))
  bu : ∀ kd, (∀ c, kd ≠ .obj c) → PySem.W.kitOne K (.type (nmK kd)) u = some (isK t kd)
theorem isi_run {cs : List Nat} {t : Ty} {u : Value} {c : V} (F : IsiF k X.K cs t u) (rc : RelV c u) (one : ∀ w, RelV c w → w = u) (kc : ClsV c u) {d : D} {x : V} {G H : Hp} {L : Lam} {μ : Store} {Q : VK} (r : Rp k X.K G L x d) (w : Wd k X.K G H L μ)
    (g : Good k X.K E G H L (isiD cs t d μ) (QV k X.K Q)) : rIsi X.K [x, c] H Q ∨ SlX.rIsiSl X.K u [x, c] H Q := by
  unfold isiD at g
  cases h : kindOf cs d μ with
  | none => rw [h] at g; exact False.elim g
  | some kd =>
    rw [h] at g
    have q := Good.okE g w _ (.bl _)
    by_cases no : ∀ c, kd ≠ .obj c
    · exact .inl ⟨x, c, _, u, _, rfl, kc, tyx_of r w h no, F.bu kd no, q⟩
    · have no' : ∃ c, kd = .obj c := by
        cases kd with
        | obj c => exact ⟨c, rfl⟩
        | _ => exact absurd (fun c z => nomatch z) no
      obtain ⟨cc, rfl⟩ := no'
      have hd : ∃ ds, d = .obj cc ds ∧ cc ∈ cs := by
        cases d with
        | obj c' ds =>
          simp only [kindOf] at h
          by_cases hc : c' ∈ cs
          · rw [if_pos hc] at h
            cases h
            exact ⟨ds, rfl, hc⟩
          · rw [if_neg hc] at h
            cases h
        | loc n =>
          simp only [kindOf] at h
          cases hm : μ[n]? with
          | none => rw [hm] at h; cases h
          | some o =>
            cases o with
            | none => rw [hm] at h; cases h
            | some c' => cases c' <;> (rw [hm] at h; cases h)
        | _ => cases h
      obtain ⟨ds, rfl, hcs⟩ := hd
      cases r with
      | @obj _ a dx vs _ hs ha =>
        obtain ⟨f1, f2, f3⟩ := F.ob cc hcs
        exact .inr ⟨a, k.cl cc, dx, _, c, _, rfl, rc, one, slt_mono w.ext hs, f1, f2, f3, q⟩
def eIsi (cs : List Nat) (t : Ty) (a : DEnv → M D) : DEnv → M D := eUn (isiD cs t) a
theorem kit_bu (t : Ty) (h : t = .int ∨ t = .bool ∨ t = .str ∨ t = .lst ∨ t = .tup) {K : PySem.W.Frag} : ∀ kd, (∀ c, kd ≠ .obj c) → PySem.W.kitOne K (.type (nmK kd)) (.type (tyNm t)) = some (isK t kd) := by
  intro kd no
  cases kd with
  | obj c => exact absurd rfl (no c)
  | _ => rcases h with rfl | rfl | rfl | rfl | rfl <;> exact kit_ty (by decide +kernel)
/-- isinstance(e, T), T a built-in class or one of the program's -/
theorem j_isi {a : Expr} {ma : DEnv → M D} {p pos pc : Pos} {cn : Str} {cs : List Nat} {t : Ty} {u : Value} {c : V} {te : TE} (F : IsiF k X.K cs t u) (rc : RelV c u) (one : ∀ w, RelV c w → w = u) (kc : ClsV c u) (hg : Gl X "isinstance") (hm : X.mg "isinstance" = none)
    (ha : JE k X E a ma) (hc : PE X (.Name cn pc) (tC c)) (hs1 : starEach [.Name cn pc] X.env = [(false, eval (.Name cn pc) X.env)] := by rfl) (he : starEach [a, .Name cn pc] X.env = (false, eval a X.env) :: starEach [.Name cn pc] X.env := by rfl) (hpl : (backTo pos (starEach [.Name cn pc] X.env)).any (·.1) = false := by rfl) :
    JE k X E (.Call (.Name "isinstance" p) [a, .Name cn pc] [] pos) (eIsi cs t ma) := by
  refine PE.imp (pe_callB (CallR.or call_isi (SlX.call_isiSl u)) hg hm (by decide +kernel) (pa_cons ha (pa_cons hc pa_nil hs1) he) (by decide) (by decide) he hpl) fun s H Q h => ?_
  obtain ⟨e, G, L, μ, sg, w, gd⟩ := h
  refine ⟨e, G, L, μ, sg, w, Good.mono (Good.bind gd) fun d1 m1 G1 H1 L1 st1 w1 q1 x r1 => ?_⟩
  exact isi_run F rc one kc r1 w1 q1
/-- isinstance(e, (list, tuple)) -/
theorem kit_seq {K : PySem.W.Frag} : ∀ kd, (∀ c, kd ≠ .obj c) → PySem.W.kitAny K (.type (nmK kd)) [.type "list", .type "tuple"] = some (isK .seq kd) := by
  intro kd no
  have h1 := kit_bu (K := K) .lst (by simp) kd no
  have h2 := kit_bu (K := K) .tup (by simp) kd no
  cases kd with
  | obj c => exact absurd rfl (no c)
  | lst => exact kitAny_cons h1 (fun z => by cases z) fun _ => rfl
  | tup => exact kitAny_cons h1 (fun _ => kitAny_cons h2 (fun z => by cases z) fun _ => rfl) fun z => by cases z
  | _ => exact kitAny_cons h1 (fun _ => kitAny_cons h2 (fun _ => kitAny_nil) fun z => by cases z) fun z => by cases z
structure IsiS (k : Kx) (K : PySem.W.Frag) (cs : List Nat) : Prop where
  ob : ∀ c ∈ cs, SlX.SCls K (k.cl c) ∧ SlX.SIsi K (k.cl c) ∧ PySem.W.kitAny K (.ref (k.cl c)) [.type "list", .type "tuple"] = some false
/-- isinstance of an instance with slots against a tuple of classes -/
def rIsiSlT (K : PySem.W.Frag) : List V → Hp → VK → Prop := fun xs H Q => ∃ (a C dx tp : Addr) (vs : List (Option V)) (cs : List V) (us : List Value) (b : Bool), xs = [V.ref a, .ref tp] ∧ H tp = some (.tup cs) ∧ Paired ClsV cs us ∧ SlX.Slt H a C dx vs ∧ SlX.SCls K C ∧ SlX.SIsi K C ∧ PySem.W.kitAny K (.ref C) us = some b ∧ Q (.bl b) H
theorem call_isiSlT : CallR X (.builtin "isinstance") (rIsiSlT X.K) := by
  intro pins s σ H xs us Q I r h
  obtain ⟨a, C, dx, tp, vs, cs, ws, b, rfl, hT, kk, hsl, hc, hi, hk, q⟩ := h
  obtain ⟨u1, u2, rfl, r1, r2⟩ := r.two
  cases (show u1 = Value.ref a from r1)
  cases (show u2 = Value.ref tp from r2)
  obtain ⟨sl, od, _, J, _⟩ := SlX.slt_inst I hsl
  obtain ⟨_, its, rv, o, h1, h2, n, h3⟩ := (show ObjOk X.prog X.w H s.heap tp (.tup cs) from I.hok tp _ hT)
  have e3 := ClsV.all kk rv
  subst e3
  obtain ⟨oc, od', dt, sl'⟩ := o
  simp only at h2 h3
  subst h2 h3
  exact PySem.W.kia_tup (OwX.kitx_slt hc.ic (hc.get _) hi.ca hi.cn hi.ct hi.cm) I.kIn J h1 hk (fun z => nomatch z) fun tk => ⟨.bl b, H, I.tok tk, rfl, q⟩
theorem j_isiS {a : Expr} {ma : DEnv → M D} {p pos p1 p2 p3 : Pos} {kk : Nat} {cs : List Nat} (F : IsiS k X.K cs) (hg : Gl X "isinstance") (hm : X.mg "isinstance" = none) (hgl : Gl X "list") (hml : X.mg "list" = none) (hgt : Gl X "tuple") (hmt : X.mg "tuple" = none) (ha : JE k X E a ma)
    (h1 : starEach [.Name "tuple" p2] X.env = [(false, eval (.Name "tuple" p2) X.env)] := by rfl) (h2 : starEach [.Name "list" p1, .Name "tuple" p2] X.env = (false, eval (.Name "list" p1) X.env) :: starEach [.Name "tuple" p2] X.env := by rfl)
    (h3 : starEach [.Tuple [.Name "list" p1, .Name "tuple" p2] kk p3] X.env = [(false, eval (.Tuple [.Name "list" p1, .Name "tuple" p2] kk p3) X.env)] := by rfl)
    (he : starEach [a, .Tuple [.Name "list" p1, .Name "tuple" p2] kk p3] X.env = (false, eval a X.env) :: starEach [.Tuple [.Name "list" p1, .Name "tuple" p2] kk p3] X.env := by rfl)
    (hpl : (backTo pos (starEach [.Tuple [.Name "list" p1, .Name "tuple" p2] kk p3] X.env)).any (·.1) = false := by rfl) :
    JE k X E (.Call (.Name "isinstance" p) [a, .Tuple [.Name "list" p1, .Name "tuple" p2] kk p3] [] pos) (eIsi cs .seq ma) := by
  have hl : PE X (.Name "list" p1) (tC (.ty "list")) := pe_bltn hgl hml (by decide +kernel) rfl
  have ht : PE X (.Name "tuple" p2) (tC (.ty "tuple")) := pe_bltn hgt hmt (by decide +kernel) rfl
  refine PE.imp (pe_callB (CallR.or call_isiT call_isiSlT) hg hm (by decide +kernel) (pa_cons ha (pa_cons (pe_tup (pa_cons hl (pa_cons ht pa_nil h1) h2)) pa_nil h3) he) (by decide) (by decide) he hpl) fun s H Q h => ?_
  obtain ⟨e, G, L, μ, sg, w, gd⟩ := h
  refine ⟨e, G, L, μ, sg, w, Good.mono (Good.bind gd) fun d1 m1 G1 H1 L1 st1 w1 q1 x r1 => ⟨by show 2 ≤ sizeLine; decide, fun tp htp => ?_⟩⟩
  have w2 := w1.junk (o := .tup [V.ty "list", V.ty "tuple"]) htp
  have q2 := Good.up q1 (junkS (G := G1) (L := L1) (o := .tup [V.ty "list", V.ty "tuple"]) htp)
  unfold isiD at q2
  cases h : kindOf cs d1 m1 with
  | none => rw [h] at q2; exact False.elim q2
  | some kd =>
    rw [h] at q2
    have q := Good.okE q2 w2 _ (.bl _)
    have kp : Paired ClsV [V.ty "list", V.ty "tuple"] [.type "list", .type "tuple"] := .cons (.ty _) (.cons (.ty _) .nil)
    by_cases no : ∀ c, kd ≠ .obj c
    · exact .inl ⟨x, tp, _, _, _, _, rfl, upd_same, kp, tyx_of r1 w2 h no, kit_seq kd no, q⟩
    · have no' : ∃ c, kd = .obj c := by
        cases kd with
        | obj c => exact ⟨c, rfl⟩
        | _ => exact absurd (fun c z => nomatch z) no
      obtain ⟨cc, rfl⟩ := no'
      cases d1 with
      | obj c' ds =>
        simp only [kindOf] at h
        by_cases hc : c' ∈ cs
        · rw [if_pos hc] at h
          cases h
          cases r1 with
          | @obj _ a dx vs _ hs ha =>
            obtain ⟨f1, f2, f3⟩ := F.ob cc hc
            exact .inr ⟨a, k.cl cc, dx, tp, _, _, _, _, rfl, upd_same, kp, slt_mono w2.ext hs, f1, f2, f3, q⟩
        · rw [if_neg hc] at h
          cases h
      | loc n =>
        simp only [kindOf] at h
        cases hm : m1[n]? with
        | none => rw [hm] at h; cases h
        | some o =>
          cases o with
          | none => rw [hm] at h; cases h
          | some c' => cases c' <;> (rw [hm] at h; cases h)
      | _ => cases h
/-! ### a display times a number -/
def szL (ds : List D) : M Unit := if ds.length ≤ 1000 then pure () else M.bad
def repW (fin : List D → M D) (ds : List D) (y : D) : M D := match y with
  | .int j => if 0 ≤ j ∧ j ≤ 1000 then fin (List.replicate j.toNat ds).flatten else M.bad
  | _ => M.bad
def mkLst (ds : List D) : M D := pure (.lst ds)
def eRep (as : DEnv → M (List D)) (b : DEnv → M D) : DEnv → M D := fun e => do let ds ← as e; szL ds; let y ← b e; repW mkLst ds y
def eRepM (as : DEnv → M (List D)) (b : DEnv → M D) : DEnv → M D := fun e => do let ds ← as e; szL ds; let y ← b e; repW newL ds y
theorem szL_good {β : Type} {ds : List D} {f : Unit → M β} {G H : Hp} {L : Lam} {m : Store} {Q : β → Store → Hp → Hp → Lam → Prop} (h : Good k X.K E G H L ((szL ds >>= f) m) Q) : ds.length ≤ 1000 ∧ Good k X.K E G H L (f () m) Q := by
  have h' : Good k X.K E G H L (M.bind (szL ds) f m) Q := h
  unfold M.bind szL at h'
  by_cases hc : ds.length ≤ 1000
  · rw [if_pos hc] at h'
    exact ⟨hc, h'⟩
  · rw [if_neg hc] at h'
    exact False.elim h'
theorem rep_core {es : List Expr} {b : Expr} {ms : DEnv → M (List D)} {mb : DEnv → M D} {pos p1 : Pos} {fin : List D → M D}
    (hfin : ∀ (G H : Hp) (L : Lam) (μ : Store) (vs : List V) (ds : List D) (Q : VK) (p : Addr), Wd k X.K G H L μ → RpA k X.K G L vs ds → H p = none → Good k X.K E G H L (fin ds μ) (QV k X.K Q) → Q (.ref p) (upd H p (.lst vs)))
    (ha : JA k X E es ms) (hb : JE k X E b mb) : JE k X E (.BinOp (.List es p1) .Mult b pos) (fun e => do let ds ← ms e; szL ds; let y ← mb e; repW fin ds y) := by
  refine PE.imp (pe_op op_rep (pe_lst ha) hb) fun s H Q h => ?_
  obtain ⟨e, G, L, μ, sg, w, gd⟩ := h
  refine ⟨e, G, L, μ, sg, w, Good.mono (Good.bind gd) fun ds m1 G1 H1 L1 st1 w1 q1 vs r1 => ?_⟩
  obtain ⟨hz, q1⟩ := szL_good q1
  refine ⟨by rw [r1.len]; exact Nat.le_trans hz (by decide), fun p hp => ?_⟩
  have js := junkS (G := G1) (L := L1) (o := .lst vs) hp
  have pv : Pv G1 (upd H1 p (.lst vs)) L1 p (.lst vs) := ⟨upd_same, w1.gnone hp, fun q hq => by
    obtain ⟨⟨o1, z1⟩, ⟨o2, z2⟩⟩ := w1.tk q hq
    exact ⟨Ne.symm (ne_of_none z1 hp), Ne.symm (ne_of_none z2 hp)⟩⟩
  refine ⟨e, G1, L1, m1, sg.mono st1.g st1.l, w1.junk hp, Good.mono (Good.bind (Good.up q1 js)) fun d2 m2 G2 H2 L2 st2 w2 q2 y r2 => ?_⟩
  have pv2 := pv.step st2
  cases d2 with
  | int j =>
    cases r2
    obtain ⟨⟨h1, h2⟩, q2⟩ := good_ite q2
    refine ⟨p, j, vs, rfl, rfl, pv2.h, by omega, by omega, ?_, fun p' hp' => ?_⟩
    · rw [r1.len]
      have a1 : ds.length * j.toNat ≤ 1000 * 1000 := Nat.mul_le_mul hz (by omega)
      exact Nat.le_trans a1 (by decide)
    · exact hfin G2 H2 L2 m2 _ _ Q p' w2 (rpA_rep (RpA.mono st2.g st2.l _ _ r1) j.toNat) hp' q2
  | _ => exact False.elim q2
theorem j_rep {es : List Expr} {b : Expr} {ms : DEnv → M (List D)} {mb : DEnv → M D} {pos p1 : Pos} (ha : JA k X E es ms) (hb : JE k X E b mb) : JE k X E (.BinOp (.List es p1) .Mult b pos) (eRep ms mb) :=
  rep_core (fin := mkLst) (fun G H L μ vs ds Q p w r hp g => g _ _ _ (w.newS hp) (w.new hp) _ (.lst (SqL.of upd_same) (RpA.mono (w.newS (o := .lst vs) hp).g (pre_refl L) _ _ r))) ha hb
theorem j_repM {es : List Expr} {b : Expr} {ms : DEnv → M (List D)} {mb : DEnv → M D} {pos p1 : Pos} (ha : JA k X E es ms) (hb : JE k X E b mb) : JE k X E (.BinOp (.List es p1) .Mult b pos) (eRepM ms mb) :=
  rep_core (fin := newL) (fun G H L μ vs ds Q p w r hp g => g _ _ _ (newLocS hp) (w.newLoc hp r) _ (.loc (a := p) (b := p) (by rw [← w.len]; simp))) ha hb
/-! ### x[i] = v, a mutable list -/
def setIx (o i v : D) : M Unit := fun m => match o, i with
  | .loc n, .int i => match m[n]? with
    | some (some (.lst ds)) => match ixN ds.length i with
      | some j => .ok () (m.set n (some (.lst (ds.set j v))))
      | none => .bad
    | _ => .bad
  | _, _ => .bad
def sSetIx (o i v : DEnv → M D) : DEnv → M Out := fun e => do let x ← v e; let y ← o e; let z ← i e; setIx y z x; pure (.nx e)
theorem setIx_good {β : Type} {o i v : D} {x y : V} {u : V} {f : Unit → M β} {G H : Hp} {L : Lam} {μ : Store} {Q : β → Store → Hp → Hp → Lam → Prop} (ro : Rp k X.K G L x o) (ri : Rp k X.K G L y i) (rv : Rp k X.K G L u v) (w : Wd k X.K G H L μ) (g : Good k X.K E G H L ((setIx o i v >>= f) μ) Q) :
    ∃ p xs kk j m', x = .ref p ∧ y = .int kk ∧ H p = some (.lst xs) ∧ ixN xs.length kk = some j ∧ Stp G H L G (upd H p (.lst (xs.set j u))) L ∧ Wd k X.K G (upd H p (.lst (xs.set j u))) L m' ∧ Good k X.K E G H L (f () m') Q := by
  have g' : Good k X.K E G H L (M.bind (setIx o i v) f μ) Q := g
  unfold M.bind setIx at g'
  cases o with
  | loc n =>
    cases i with
    | int kk =>
      cases ri
      simp only at g'
      cases hm : μ[n]? with
      | none => rw [hm] at g'; exact False.elim g'
      | some c =>
        cases c with
        | none => rw [hm] at g'; exact False.elim g'
        | some c =>
          cases c with
          | ins _ _ => rw [hm] at g'; exact False.elim g'
          | lst ds =>
            rw [hm] at g'
            simp only at g'
            cases hj : ixN ds.length kk with
            | none => rw [hj] at g'; exact False.elim g'
            | some j =>
              rw [hj] at g'
              obtain ⟨a, vs, rfl, hl, ga, h, ra⟩ := w.look hm ro
              exact ⟨a, vs, kk, j, _, rfl, rfl, h, by rw [ra.len]; exact hj, setLocS hl h, w.setLoc hm hl (ra.set j rv), g'⟩
    | _ => exact False.elim g'
  | _ => cases i <;> exact False.elim g'
theorem js_setIx {o i v : Expr} {mo mi mv : DEnv → M D} {pos pos' : Pos} (hv : JE k X E v mv) (ho : JE k X E o mo) (hi : JE k X E i mi) (hs : swapsWithSole [.Subscript o i pos'] v pos.line X.env = pure false := by rfl) (hw : swappedStores [.Subscript o i pos'] v X.env = pure none := by rfl)
    (h1 : (assignEach [.Subscript o i pos'] X.env).map (·.2) = [assign (.Subscript o i pos') X.env] := by rfl)
    (ha : ∀ v, assign (.Subscript o i pos') X.env v = (do
      let ov ← holding [v] (eval o X.env)
      let iv ← holding [v, ov] (eval i X.env)
      standAt pos'
      holding [v, ov, iv] (setItem ov iv v)
      release [v, ov, iv] []) := by intro _; rfl) : JS k X E (.Assign [.Subscript o i pos'] v pos) (sSetIx mo mi mv) := by
  refine PS.imp (ps_asg hv (pg_sub ho hi set_list ha) hs hw h1) fun Ds s H h => ?_
  obtain ⟨e, G, L, μ, sg, w, gd⟩ := h
  refine ⟨e, G, L, μ, sg, w, Good.mono (Good.bind gd) fun d1 m1 G1 H1 L1 st1 w1 q1 x1 r1 => ?_⟩
  have sg1 := sg.mono st1.g st1.l
  refine ⟨e, G1, L1, m1, sg1, w1, Good.mono (Good.bind q1) fun d2 m2 G2 H2 L2 st2 w2 q2 x2 r2 => ?_⟩
  have sg2 := sg1.mono st2.g st2.l
  refine ⟨e, G2, L2, m2, sg2, w2, Good.mono (Good.bind q2) fun d3 m3 G3 H3 L3 st3 w3 q3 x3 r3 => ?_⟩
  have sg3 := sg2.mono st3.g st3.l
  obtain ⟨p, xs, kk, j, m', rfl, rfl, h, hj, st4, w4, q4⟩ := setIx_good (Rp.mono st3.g st3.l _ _ r2) r3 (Rp.mono st3.g st3.l _ _ (Rp.mono st2.g st2.l _ _ r1)) w3 q3
  exact ⟨p, xs, kk, j, rfl, rfl, h, hj, Good.up q4 st4 _ _ _ (Stp.refl _ _ _) w4 _ (sg3.mono st4.g st4.l)⟩
/-! ### xs.append(e), xs.extend([..]) -/
def isLocL (o : D) : M Unit := fun m => match o with
  | .loc n => match m[n]? with
    | some (some (.lst _)) => .ok () m
    | _ => .bad
  | _ => .bad
def growD (o : D) (vs : List D) : M D := fun m => match o with
  | .loc n => match m[n]? with
    | some (some (.lst ds)) => if ds.length + vs.length ≤ 100000 then .ok .non (m.set n (some (.lst (ds ++ vs)))) else .bad
    | _ => .bad
  | _ => .bad
def eApp (o v : DEnv → M D) : DEnv → M D := fun e => do let x ← o e; isLocL x; let y ← v e; growD x [y]
theorem isLoc_good {β : Type} {o : D} {x : V} {f : Unit → M β} {G H : Hp} {L : Lam} {μ : Store} {Q : β → Store → Hp → Hp → Lam → Prop} (r : Rp k X.K G L x o) (w : Wd k X.K G H L μ) (g : Good k X.K E G H L ((isLocL o >>= f) μ) Q) :
    tyV X.K "list" x H ∧ Good k X.K E G H L (f () μ) Q := by
  have g' : Good k X.K E G H L (M.bind (isLocL o) f μ) Q := g
  unfold M.bind isLocL at g'
  cases o with
  | loc n =>
    simp only at g'
    cases hm : μ[n]? with
    | none => rw [hm] at g'; exact False.elim g'
    | some c =>
      cases c with
      | none => rw [hm] at g'; exact False.elim g'
      | some c =>
        cases c with
        | ins _ _ => rw [hm] at g'; exact False.elim g'
        | lst ds =>
          rw [hm] at g'
          obtain ⟨a, vs, rfl, hl, ga, h, ra⟩ := w.look hm r
          exact ⟨.inl ⟨rfl, vs, SqL.of h⟩, g'⟩
  | _ => exact False.elim g'
theorem grow_good {o : D} {x : V} {us : List V} {ds' : List D} {G H : Hp} {L : Lam} {μ : Store} {Q : VK} (r : Rp k X.K G L x o) (ru : RpA k X.K G L us ds') (w : Wd k X.K G H L μ) (g : Good k X.K E G H L (growD o ds' μ) (QV k X.K Q)) :
    ∃ l xs, x = .ref l ∧ H l = some (.lst xs) ∧ xs.length + us.length ≤ 100000 ∧ Q .non (upd H l (.lst (xs ++ us))) := by
  unfold growD at g
  cases o with
  | loc n =>
    simp only at g
    cases hm : μ[n]? with
    | none => rw [hm] at g; exact False.elim g
    | some c =>
      cases c with
      | none => rw [hm] at g; exact False.elim g
      | some c =>
        cases c with
        | ins _ _ => rw [hm] at g; exact False.elim g
        | lst ds =>
          rw [hm] at g
          simp only at g
          by_cases hz : ds.length + ds'.length ≤ 100000
          · rw [if_pos hz] at g
            obtain ⟨a, vs, rfl, hl, ga, h, ra⟩ := w.look hm r
            exact ⟨a, vs, rfl, h, by rw [ra.len, ru.len]; exact hz, g _ _ _ (setLocS hl h) (w.setLoc hm hl (ra.append ru)) _ .non⟩
          · rw [if_neg hz] at g
            exact False.elim g
  | _ => exact False.elim g
theorem j_app {o v : Expr} {mo mv : DEnv → M D} {apos pos : Pos} (ho : JE k X E o mo) (hv : JE k X E v mv)
    (hbase : attributeBase o "append" X.env (eval o X.env) = eval o X.env := by rfl)
    (hfew : ((backTo pos (starEach [v] X.env)).all (fun x => !x.1) && (backToKw pos (keywordEach [] X.env)).all (fun x => x.1.isSome)
      && decide ([v].length + ([] : List Keyword).length + (if ([] : List Keyword).isEmpty then 0 else 1) < 30)) = true := by rfl)
    (hline : (apos.endLine == pos.line) = true := by rfl) (hs : starEach [v] X.env = (false, eval v X.env) :: starEach [] X.env := by rfl) (hplain : (backTo pos (starEach [] X.env)).any (·.1) = false := by rfl) :
    JE k X E (.Call (.Attribute o "append" apos) [v] [] pos) (eApp mo mv) := by
  refine PE.imp (pe_bm PySem.F.plainAttrs_list PySem.F.slot_list_append PySem.F.type_list_append mt_append ho (pa_cons hv pa_nil hs) hbase hfew hline hs hplain) fun s H Q h => ?_
  obtain ⟨e, G, L, μ, sg, w, gd⟩ := h
  refine ⟨e, G, L, μ, sg, w, Good.mono (Good.bind gd) fun d1 m1 G1 H1 L1 st1 w1 q1 x1 r1 => ?_⟩
  obtain ⟨ty, q1⟩ := isLoc_good r1 w1 q1
  refine ⟨ty, e, G1, L1, m1, sg.mono st1.g st1.l, w1, Good.mono (Good.bind q1) fun d2 m2 G2 H2 L2 st2 w2 q2 x2 r2 => ?_⟩
  obtain ⟨l, xs, rfl, h, hz, q⟩ := grow_good (Rp.mono st2.g st2.l _ _ r1) (.cons r2 .nil) w2 q2
  exact ⟨l, xs, x2, rfl, rfl, h, lt_size (by simp at hz; omega), q⟩
/-- xs.extend([.. for ..]) -/
def eExt (o : DEnv → M D) (c : DEnv → M (List D)) : DEnv → M D := fun e => do let x ← o e; isLocL x; let ds ← c e; growD x ds
theorem j_ext {o : Expr} {mo : DEnv → M D} {apos pos cpos : Pos} {tg iter elt : Expr} {mi : DEnv → M Src} {ts : List Nat} {g : D → DEnv → M DEnv} {mt : DEnv → M Bool} {me : DEnv → M D} {ifs : List Expr} {scope : Scope} {own : List (Str × Nat)} (ho : JE k X E o mo)
    (sub : ∀ i ∈ ts, i ∈ own.map (·.2)) (hc : X.calm = true) (hN : X.N.Nodup) (hi : JI k X E tg iter mi) (ok : BlkOk X.N X.env.scope scope own)
    (hg : ∀ (s : Shared) (H : Hp) (C : Addr) (cl : List (Str × Addr)) (fp : List Addr), JG k (X.blk s H scope (compEnvC scope cl C X.env) fp) E0 tg ts g)
    (ht : ∀ (s : Shared) (H : Hp) (C : Addr) (cl : List (Str × Addr)) (fp : List Addr), PTs (X.blk s H scope (compEnvC scope cl C X.env) fp) ifs (dT k X.K E0 mt))
    (he : ∀ (s : Shared) (H : Hp) (C : Addr) (cl : List (Str × Addr)) (fp : List Addr), JE k (X.blk s H scope (compEnvC scope cl C X.env) fp) E0 elt me) (hfs : ∀ x, foldedSetIterable iter X.env x = pure x := by intro _; rfl)
    (hbase : attributeBase o "extend" X.env (eval o X.env) = eval o X.env := by rfl)
    (hfew : ((backTo pos (starEach [.ListComp elt [⟨tg, iter, ifs, 0⟩] scope cpos] X.env)).all (fun x => !x.1) && (backToKw pos (keywordEach [] X.env)).all (fun x => x.1.isSome)
      && decide ([Expr.ListComp elt [⟨tg, iter, ifs, 0⟩] scope cpos].length + ([] : List Keyword).length + (if ([] : List Keyword).isEmpty then 0 else 1) < 30)) = true := by rfl)
    (hline : (apos.endLine == pos.line) = true := by rfl) (hs : starEach [.ListComp elt [⟨tg, iter, ifs, 0⟩] scope cpos] X.env = (false, eval (.ListComp elt [⟨tg, iter, ifs, 0⟩] scope cpos) X.env) :: starEach [] X.env := by rfl) (hplain : (backTo pos (starEach [] X.env)).any (·.1) = false := by rfl) :
    JE k X E (.Call (.Attribute o "extend" apos) [.ListComp elt [⟨tg, iter, ifs, 0⟩] scope cpos] [] pos) (eExt mo (compM mi g mt me (own.map (·.2)))) := by
  have pc := pe_lc (pos := cpos) (g := dG k X.K E0 ts g) (te := dE k X.K E0 me) hc hN hi ok hg ht he hfs
  refine PE.imp (pe_bm PySem.F.plainAttrs_list PySem.F.slot_list_extend PySem.F.type_list_extend mt_extend ho (pa_cons pc pa_nil hs) hbase hfew hline hs hplain) fun s H Q h => ?_
  obtain ⟨e, G, L, μ, sg, w, gd⟩ := h
  refine ⟨e, G, L, μ, sg, w, Good.mono (Good.bind gd) fun d1 m1 G1 H1 L1 st1 w1 q1 x1 r1 => ?_⟩
  obtain ⟨ty, q1⟩ := isLoc_good r1 w1 q1
  refine ⟨ty, comp_gen (fin := fun ds => growD d1 ds) sub (fun G2 H2 L2 G' H' L' μ' Dl ws ds st12 st hD w' pv ra g' => ?_) (sg.mono st1.g st1.l) w1 q1⟩
  have s1 := st12.trans st
  obtain ⟨l, xs, rfl, hh, hz, q⟩ := grow_good (Rp.mono s1.g s1.l _ _ r1) ra w' (Good.up g' st)
  exact ⟨l, Dl, xs, ws, rfl, rfl, hh, pv.h, size_of hz, q⟩
end
end DL

namespace DL
open PySem L2 PyProof.Rows

/-! ### instances -/
def clsD (d : D) (m : Store) : Option Nat := match d with
  | .obj c _ => some c
  | .loc n => match m[n]? with
    | some (some (.ins c _)) => some c
    | _ => none
  | _ => none
def slotD (i : Nat) (d : D) (m : Store) : Option D := match d with
  | .obj _ ds => ds[i]?
  | .loc n => match m[n]? with
    | some (some (.ins _ ss)) => match ss[i]? with
      | some (some v) => some v
      | _ => none
    | _ => none
  | _ => none
inductive At where
  | slot (i : Nat)
  | prop (den : List D → M D)
def attrD (tab : List (Nat × At)) (d : D) : M D := fun m => match clsD d m with
  | some c => match tab.lookup c with
    | some (.slot i) => match slotD i d m with
      | some v => .ok v m
      | none => .bad
    | some (.prop den) => noX (den [d]) m
    | none => .bad
  | none => .bad
section
variable {k : Kx} {X : Cx} {E : XK}
theorem ins_at {d : D} {x : V} {c : Nat} {G H : Hp} {L : Lam} {μ : Store} (r : Rp k X.K G L x d) (w : Wd k X.K G H L μ) (h : clsD d μ = some c) :
    ∃ a dx vs, x = .ref a ∧ SlX.Slt H a (k.cl c) dx vs ∧ ∀ i v, slotD i d μ = some v → ∃ u, vs[i]? = some (some u) ∧ Rp k X.K G L u v := by
  cases d with
  | obj c' ds =>
    simp only [clsD] at h
    cases h
    cases r with
    | @obj _ a dx vs _ hs ha =>
      refine ⟨a, dx, _, rfl, slt_mono w.ext hs, fun i v e => ?_⟩
      simp only [slotD] at e
      obtain ⟨u, hu, ru⟩ := ha.get e
      exact ⟨u, by rw [List.getElem?_map, hu]; rfl, ru⟩
  | loc n =>
    simp only [clsD] at h
    cases hm : μ[n]? with
    | none => rw [hm] at h; cases h
    | some o =>
      cases o with
      | none => rw [hm] at h; cases h
      | some cc =>
        cases cc with
        | lst _ => rw [hm] at h; cases h
        | ins c' ss =>
          rw [hm] at h
          cases h
          obtain ⟨a, dx, vs, rfl, hl, ga, gb, hs, q, ne⟩ := w.lookIns hm r
          refine ⟨a, dx, vs, rfl, hs, fun i v e => ?_⟩
          simp only [slotD, hm] at e
          cases he : ss[i]? with
          | none => rw [he] at e; cases e
          | some o =>
            cases o with
            | none => rw [he] at e; cases e
            | some d' =>
              rw [he] at e
              cases e
              exact q.2 i _ he
  | _ => cases h
theorem slt_of {d : D} {x : V} {c : Nat} {G H : Hp} {L : Lam} {μ : Store} (r : Rp k X.K G L x d) (w : Wd k X.K G H L μ) (h : clsD d μ = some c) : ∃ a dx vs, x = .ref a ∧ SlX.Slt H a (k.cl c) dx vs :=
  let ⟨a, dx, vs, e, hs, _⟩ := ins_at r w h
  ⟨a, dx, vs, e, hs⟩
def At1 (k : Kx) (X : Cx) (f : Str) (c : Nat) : At → Prop
  | .slot i => SlX.SCls X.K (k.cl c) ∧ ∃ p, SlX.Slot1 X.K (k.cl c) f p i
  | .prop den => SlX.SCls X.K (k.cl c) ∧ ∃ p g lvl rest, PySem.W.findIn X.K (.ref (k.cl c)) f = some (some (.ref p)) ∧ PySem.W.specialIn X.K (.ref p) "__get__" = some (some (.builtin "property.__get__")) ∧
      PySem.W.takesIn X.K (.ref p) = some true ∧ PySem.W.recIn X.K p "property" = some (.ref g :: rest) ∧ FnDn k X lvl g 1 den ∧ Room (lvl + 1) X.A
def AtAll (k : Kx) (X : Cx) (f : Str) : List (Nat × At) → Prop
  | [] => True
  | p :: r => At1 k X f p.1 p.2 ∧ AtAll k X f r
theorem atAll_of {f : Str} {c : Nat} {a : At} : ∀ {tab : List (Nat × At)}, AtAll k X f tab → tab.lookup c = some a → At1 k X f c a
  | [], _, h => by cases h
  | p :: r, F, h => by
    rw [List.lookup_cons] at h
    by_cases hc : c == p.1
    · rw [hc] at h
      cases h
      rw [beq_iff_eq.mp hc]
      exact F.1
    · rw [Bool.eq_false_iff.mpr hc] at h
      exact atAll_of F.2 h
theorem noX_good {α : Type} {x : M α} {G H : Hp} {L : Lam} {m : Store} {Q : α → Store → Hp → Hp → Lam → Prop} (h : Good k X.K E G H L (noX x m) Q) : Good k X.K E0 G H L (x m) Q := by
  unfold noX at h
  cases e : x m with
  | ok a m' => rw [e] at h; exact h
  | exn c fs m' => rw [e] at h; exact False.elim h
  | bad => rw [e] at h; exact False.elim h
/-- e.f, by the class of e: a slot, a property -/
theorem j_attr {a : Expr} {ma : DEnv → M D} {f : Str} {pos : Pos} {tab : List (Nat × At)} (F : AtAll k X f tab) (ha : JE k X E a ma) (hb : attributeBase a f X.env (eval a X.env) = eval a X.env := by rfl) : JE k X E (.Attribute a f pos) (eUn (attrD tab) ma) := by
  refine ⟨fun pins s σ H Q I h => ?_⟩
  obtain ⟨e, G, L, μ, sg, w, gd⟩ := h
  have h' : dE k X.K E ma σ H fun x H1 => ∃ G1 L1 m1 d, Rp k X.K G1 L1 x d ∧ Wd k X.K G1 H1 L1 m1 ∧ Good k X.K E G1 H1 L1 (attrD tab d m1) (QV k X.K Q) :=
    ⟨e, G, L, μ, sg, w, Good.mono (Good.bind gd) fun d m1 G1 H1 L1 st1 w1 q1 x r => ⟨G1, L1, m1, d, r, w1, q1⟩⟩
  refine attr_of hb (thn (ha.run pins s σ H _ I h') fun u s1 ⟨x, H1, I1, rx, G1, L1, m1, d, r, w1, q1⟩ => ?_)
  unfold attrD at q1
  cases hc : clsD d m1 with
  | none => rw [hc] at q1; exact False.elim q1
  | some c =>
    simp only [hc] at q1
    obtain ⟨a, dx, vs, rfl, hs, hv⟩ := ins_at r w1 hc
    obtain rfl : u = Value.ref a := rx
    cases ht : tab.lookup c with
    | none => rw [ht] at q1; exact False.elim q1
    | some at' =>
      simp only [ht] at q1
      have A1 := atAll_of F ht
      cases at' with
      | slot i =>
        simp only at q1
        cases hsl : slotD i d m1 with
        | none => rw [hsl] at q1; exact False.elim q1
        | some v =>
          simp only [hsl] at q1
          obtain ⟨y, hy, ry⟩ := hv i v hsl
          obtain ⟨sc, p, sp⟩ := A1
          exact SlX.getslot_ok I1 hs sc sp hy fun u' s2 I2 ru => ⟨y, H1, I2, ru, Good.okE q1 w1 _ ry⟩
      | prop den =>
        simp only at q1
        obtain ⟨sc, p, g, lvl, rest, f1, f2, f3, f4, Fn, hr⟩ := A1
        refine SlX.getprop_sl (E := E0) I1 hs sc f1 f2 f3 ⟨rest, f4⟩ Fn hr (fun H s e s' z => ?_) ⟨[d], G1, L1, m1, .cons r .nil, rfl, w1, noX_good q1⟩
        obtain ⟨_, _, _, _, _, _, _, _, _, _, _, _, z⟩ := z
        exact z.elim
/-- self.f = e, in a class's own defs -/
def setAt (i : Nat) (o v : D) : M Unit := fun m => match o with
  | .loc n => match m[n]? with
    | some (some (.ins c ss)) => .ok () (m.set n (some (.ins c (putD i v ss))))
    | _ => .bad
  | _ => .bad
def setAtT (tab : List (Nat × Nat)) (o v : D) : M Unit := fun m => match clsD o m with
  | some c => match tab.lookup c with
    | some i => setAt i o v m
    | none => .bad
  | none => .bad
def sAttr (tab : List (Nat × Nat)) (o v : DEnv → M D) : DEnv → M Out := fun e => do let x ← v e; let y ← o e; setAtT tab y x; pure (.nx e)
def SlAll (k : Kx) (X : Cx) (f : Str) : List (Nat × Nat) → Prop
  | [] => True
  | p :: r => (SlX.SCls X.K (k.cl p.1) ∧ ∃ q, SlX.Slot1 X.K (k.cl p.1) f q p.2) ∧ SlAll k X f r
theorem slAll_of {f : Str} {c i : Nat} : ∀ {tab : List (Nat × Nat)}, SlAll k X f tab → tab.lookup c = some i → SlX.SCls X.K (k.cl c) ∧ ∃ q, SlX.Slot1 X.K (k.cl c) f q i
  | [], _, h => by cases h
  | p :: r, F, h => by
    rw [List.lookup_cons] at h
    by_cases hc : c == p.1
    · rw [hc] at h
      cases h
      rw [beq_iff_eq.mp hc]
      exact F.1
    · rw [Bool.eq_false_iff.mpr hc] at h
      exact slAll_of F.2 h
theorem setAt_good {β : Type} {tab : List (Nat × Nat)} {o v : D} {x y : V} {f : Unit → M β} {G H : Hp} {L : Lam} {μ : Store} {Q : β → Store → Hp → Hp → Lam → Prop} (ro : Rp k X.K G L x o) (rv : Rp k X.K G L y v) (w : Wd k X.K G H L μ) (g : Good k X.K E G H L ((setAtT tab o v >>= f) μ) Q) :
    ∃ a c dx vs i m', x = .ref a ∧ tab.lookup c = some i ∧ SlX.Slt H a (k.cl c) dx vs ∧ Stp G H L G (SlX.slH H a (k.cl c) dx (SlX.putS i y vs)) L ∧ Wd k X.K G (SlX.slH H a (k.cl c) dx (SlX.putS i y vs)) L m' ∧ Good k X.K E G H L (f () m') Q := by
  have g' : Good k X.K E G H L (M.bind (setAtT tab o v) f μ) Q := g
  unfold M.bind setAtT setAt at g'
  cases o with
  | loc n =>
    simp only [clsD] at g'
    cases hm : μ[n]? with
    | none => simp only [hm] at g'; exact False.elim g'
    | some oc =>
      cases oc with
      | none => simp only [hm] at g'; exact False.elim g'
      | some cc =>
        cases cc with
        | lst _ => simp only [hm] at g'; exact False.elim g'
        | ins c ss =>
          simp only [hm] at g'
          cases ht : tab.lookup c with
          | none => rw [ht] at g'; exact False.elim g'
          | some i =>
            rw [ht] at g'
            simp only at g'
            obtain ⟨a, dx, vs, rfl, hl, ga, gb, hs, q, ne⟩ := w.lookIns hm ro
            obtain ⟨t1, t2⟩ := w.tk (a, dx) (List.mem_of_getElem? hl)
            exact ⟨a, c, dx, vs, i, _, rfl, ht, hs, setInsS hl t1 t2, w.setIns i hm hl q ne rv, g'⟩
  | obj c ds =>
    simp only [clsD] at g'
    cases ht : tab.lookup c with
    | none => rw [ht] at g'; exact False.elim g'
    | some i => rw [ht] at g'; exact False.elim g'
  | _ => exact False.elim g'
theorem js_attr {o v : Expr} {mo mv : DEnv → M D} {f : Str} {pos pos' : Pos} {tab : List (Nat × Nat)} (F : SlAll k X f tab) (ho : JE k X E o mo) (hv : JE k X E v mv) (hs : swapsWith v (some (.Attribute o f pos')) pos.line X.env = pure false := by rfl) :
    JS k X E (.Assign [.Attribute o f pos'] v pos) (sAttr tab mo mv) := by
  refine PS.imp (SlX.ps_sl ho hv hs) fun Ds s H h => ?_
  obtain ⟨e, G, L, μ, sg, w, gd⟩ := h
  refine ⟨e, G, L, μ, sg, w, Good.mono (Good.bind gd) fun d1 m1 G1 H1 L1 st1 w1 q1 x1 r1 => ?_⟩
  have sg1 := sg.mono st1.g st1.l
  refine ⟨e, G1, L1, m1, sg1, w1, Good.mono (Good.bind q1) fun d2 m2 G2 H2 L2 st2 w2 q2 x2 r2 => ?_⟩
  have sg2 := sg1.mono st2.g st2.l
  obtain ⟨a, c, dx, vs, i, m', rfl, ht, hsl, st3, w3, q3⟩ := setAt_good r2 (Rp.mono st2.g st2.l _ _ r1) w2 q2
  obtain ⟨sc, p, sp⟩ := slAll_of F ht
  exact ⟨a, k.cl c, dx, p, vs, i, rfl, hsl, sc, sp, Good.up q3 st3 _ _ _ (Stp.refl _ _ _) w3 _ (sg2.mono st3.g st3.l)⟩

/-! ### o.m(e, ..) -/
abbrev MTab := List (Nat × Nat × (List D → M D))
def clsM (d : D) : M Nat := fun m => match clsD d m with
  | some c => .ok c m
  | none => .bad
def methOf (tab : MTab) (c : Nat) : M (Nat × (List D → M D)) := match tab.lookup c with
  | some p => pure p
  | none => M.bad
def eMeth (tab : MTab) (o : DEnv → M D) (as : DEnv → M (List D)) : DEnv → M D := fun e => do
  let x ← o e
  let c ← clsM x
  let p ← methOf tab c
  let ds ← as e
  callN p.1 p.2 (x :: ds)
def Mt1 (k : Kx) (X : Cx) (m : Str) (c n : Nat) (den : List D → M D) : Prop := SlX.SCls X.K (k.cl c) ∧ ∃ g lvl, Meth X.K (k.cl c) m g ∧ FnDn k X lvl g n den ∧ Room lvl X.A
def MtAll (k : Kx) (X : Cx) (m : Str) : MTab → Prop
  | [] => True
  | p :: r => Mt1 k X m p.1 p.2.1 p.2.2 ∧ MtAll k X m r
theorem mtAll_of {m : Str} {c : Nat} {q : Nat × (List D → M D)} : ∀ {tab : MTab}, MtAll k X m tab → tab.lookup c = some q → Mt1 k X m c q.1 q.2
  | [], _, h => by cases h
  | p :: r, F, h => by
    rw [List.lookup_cons] at h
    by_cases hc : c == p.1
    · rw [hc] at h
      cases h
      rw [beq_iff_eq.mp hc]
      exact F.1
    · rw [Bool.eq_false_iff.mpr hc] at h
      exact mtAll_of F.2 h
theorem clsM_good {β : Type} {d : D} {f : Nat → M β} {G H : Hp} {L : Lam} {μ : Store} {Q : β → Store → Hp → Hp → Lam → Prop} (g : Good k X.K E G H L ((clsM d >>= f) μ) Q) : ∃ c, clsD d μ = some c ∧ Good k X.K E G H L (f c μ) Q := by
  have g' : Good k X.K E G H L (M.bind (clsM d) f μ) Q := g
  unfold M.bind clsM at g'
  cases h : clsD d μ with
  | none => rw [h] at g'; exact False.elim g'
  | some c => rw [h] at g'; exact ⟨c, rfl, g'⟩
theorem methOf_good {β : Type} {tab : MTab} {c : Nat} {f : (Nat × (List D → M D)) → M β} {G H : Hp} {L : Lam} {μ : Store} {Q : β → Store → Hp → Hp → Lam → Prop} (g : Good k X.K E G H L ((methOf tab c >>= f) μ) Q) : ∃ p, tab.lookup c = some p ∧ Good k X.K E G H L (f p μ) Q := by
  unfold methOf at g
  cases h : tab.lookup c with
  | none => rw [h] at g; exact False.elim g
  | some p => rw [h] at g; exact ⟨p, rfl, g⟩
theorem j_meth {o a : Expr} {es : List Expr} {mo : DEnv → M D} {ms : DEnv → M (List D)} {m : Str} {pos apos : Pos} {tab : MTab} {pl : Sem Bool} (F : MtAll k X m tab) (hx : Passes (L2.CX X.prog X.w) X E) (ho : JE k X E o mo) (ha : JA k X E (a :: es) ms)
    (hst : starEach (a :: es) X.env = (false, eval a X.env) :: starEach es X.env := by rfl) (hpl : (backTo pos (starEach es X.env)).any (·.1) = false := by rfl)
    (ht : eval (.Call (.Attribute o m apos) (a :: es) [] pos) X.env = (do
      let ov ← eval o X.env
      standAt apos.atName
      let (f, first) ← holding [ov] (getMethod ov m pl)
      callWith pos f first (backTo pos (starEach (a :: es) X.env)) (backToKw pos (keywordEach [] X.env))) := by rfl) :
    JE k X E (.Call (.Attribute o m apos) (a :: es) [] pos) (eMeth tab mo ms) := by
  refine ⟨fun pins s σ H Q I h => ?_⟩
  obtain ⟨e, G, L, μ, sg, w, gd⟩ := h
  have h' : dE k X.K E mo σ H fun x H1 => ∃ c n den a dx vs, x = .ref a ∧ tab.lookup c = some (n, den) ∧ SlX.Slt H1 a (k.cl c) dx vs ∧ dA k X.K E ms σ H1 fun ws H2 => spD k X.K n den (x :: ws) H2 Q E := by
    refine ⟨e, G, L, μ, sg, w, Good.mono (Good.bind gd) fun d m1 G1 H1 L1 st1 w1 q1 x r => ?_⟩
    obtain ⟨c, hc, q1⟩ := clsM_good q1
    obtain ⟨⟨n, den⟩, ht, q1⟩ := methOf_good q1
    obtain ⟨a, dx, vs, rfl, hs⟩ := slt_of r w1 hc
    refine ⟨c, n, den, a, dx, vs, rfl, ht, hs, e, G1, L1, m1, sg.mono st1.g st1.l, w1, Good.mono (Good.bind q1) fun ds m2 G2 H2 L2 st2 w2 q2 ws rw' => ?_⟩
    obtain ⟨hl, q2⟩ := good_ite q2
    exact ⟨d :: ds, G2, L2, m2, .cons (Rp.mono st2.g st2.l _ _ r) rw', hl, w2, q2⟩
  refine PySem.W.methodCall_KW (pl := pl) (thn (ho.run pins s σ H _ I h') fun u s1 ⟨x, H1, I1, rx, c, n, den, a, dx, vs, ex, htab, hsl, q⟩ => ?_) ht
  subst ex
  obtain rfl : u = Value.ref a := rx
  obtain ⟨sc, g, lvl, hm, Fn, hr⟩ := mtAll_of F htab
  refine SlX.getmethsl_ok I1 hsl sc hm ?_
  refine PySem.W.callWith_K (first := [.ref a]) (h₀ := X.base) I.ok.mod.kin hm.kp (thn (ha.run pos pins s1 σ H1 _ I1 q) fun us s2 ⟨ws, H2, I2, r, q2⟩ => ⟨I2.kIn, ?_⟩) hst hpl
  exact wpAny_call (run_fnR (us := .ref a :: us) (vs := .ref a :: ws) Fn hr hx I2 (.cons rfl r) q2)
theorem j_meth0 {o : Expr} {mo : DEnv → M D} {m : Str} {pos apos : Pos} {tab : MTab} {pl : Sem Bool} (F : MtAll k X m tab) (hx : Passes (L2.CX X.prog X.w) X E) (ho : JE k X E o mo)
    (ht : eval (.Call (.Attribute o m apos) [] [] pos) X.env = (do
      let ov ← eval o X.env
      standAt apos.atName
      let (f, first) ← holding [ov] (getMethod ov m pl)
      callWith pos f first (backTo pos (starEach [] X.env)) (backToKw pos (keywordEach [] X.env))) := by rfl) :
    JE k X E (.Call (.Attribute o m apos) [] [] pos) (eMeth tab mo aNil) := by
  refine ⟨fun pins s σ H Q I h => ?_⟩
  obtain ⟨e, G, L, μ, sg, w, gd⟩ := h
  have h' : dE k X.K E mo σ H fun x H1 => ∃ c n den a dx vs, x = .ref a ∧ tab.lookup c = some (n, den) ∧ SlX.Slt H1 a (k.cl c) dx vs ∧ spD k X.K n den [x] H1 Q E := by
    refine ⟨e, G, L, μ, sg, w, Good.mono (Good.bind gd) fun d m1 G1 H1 L1 st1 w1 q1 x r => ?_⟩
    obtain ⟨c, hc, q1⟩ := clsM_good q1
    obtain ⟨⟨n, den⟩, ht, q1⟩ := methOf_good q1
    obtain ⟨a, dx, vs, rfl, hs⟩ := slt_of r w1 hc
    obtain ⟨hl, q2⟩ := good_ite (good_pureb q1)
    exact ⟨c, n, den, a, dx, vs, rfl, ht, hs, [d], G1, L1, m1, .cons r .nil, hl, w1, q2⟩
  refine PySem.W.methodCall_KW (pl := pl) (thn (ho.run pins s σ H _ I h') fun u s1 ⟨x, H1, I1, rx, c, n, den, a, dx, vs, ex, htab, hsl, q⟩ => ?_) ht
  subst ex
  obtain rfl : u = Value.ref a := rx
  obtain ⟨sc, g, lvl, hm, Fn, hr⟩ := mtAll_of F htab
  refine SlX.getmethsl_ok I1 hsl sc hm ?_
  exact PySem.W.callWith_K0 (first := [.ref a]) I1.kIn hm.kp (wpAny_call (run_fnR (us := [.ref a]) (vs := [.ref a]) Fn hr hx I1 (.cons rfl .nil) q))

/-! ### C(e, ..) -/
def newI (c : Nat) : M D := fun m => .ok (.loc m.length) (m ++ [some (.ins c [])])
def allSome : List (Option D) → Option (List D)
  | [] => some []
  | some d :: r => (allSome r).map (d :: ·)
  | none :: _ => none
def frzI (d : D) : M D := fun m => match d with
  | .loc n => match m[n]? with
    | some (some (.ins c ss)) => match allSome ss with
      | some ds => .ok (.obj c ds) (m.set n none)
      | none => .bad
    | _ => .bad
  | _ => .bad
def isNon : D → M Unit
  | .non => pure ()
  | _ => M.bad
def makeD (c n : Nat) (den : List D → M D) (ds : List D) : M D := scopeM (do
  let o ← newI c
  let r ← callN n den (o :: ds)
  isNon r
  frzI o)
theorem allSome_of : ∀ {ss : List (Option D)} {ds : List D}, allSome ss = some ds → ss = ds.map some
  | [], _, h => by cases h; rfl
  | none :: _, _, h => by cases h
  | some d :: r, _, h => by
    simp only [allSome] at h
    cases e : allSome r with
    | none => rw [e] at h; cases h
    | some es =>
      rw [e] at h
      cases h
      rw [allSome_of e]
      rfl
theorem make_good {c n : Nat} {den : List D → M D} {vs : List V} {ds : List D} {G H : Hp} {L : Lam} {μ : Store} {Q : VK} (r : RpA k X.K G L vs ds) (w : Wd k X.K G H L μ) (g : Good k X.K E G H L (makeD c n den ds μ) (QV k X.K Q)) :
    ∀ x dx, H x = none → H dx = none → dx ≠ x → spD k X.K n den (V.ref x :: vs) (upd (upd H dx (.own x)) x (.ins (k.cl c) dx [])) (fun v H2 => v = .non ∧ Q (.ref x) H2) E := by
  intro x dx hx hd ne
  have g1 := scope_good w g
  have g2 : Good k X.K E G H L ((do let r ← callN n den (.loc μ.length :: ds); isNon r; frzI (.loc μ.length)) (μ ++ [some (Cell.ins c [])])) (QV k X.K Q) := g1
  have st := newInsS (G := G) (L := L) (o := .own x) (o' := .ins (k.cl c) dx []) hx hd ne
  have w1 := w.newIns (c := c) hx hd ne
  have rx : Rp k X.K G (L ++ [(x, dx)]) (.ref x) (.loc μ.length) := .loc (a := x) (b := dx) (by rw [← w.len]; simp)
  have g3 := Good.up g2 st
  unfold callN at g3
  by_cases hl : (D.loc μ.length :: ds).length = n
  · simp only [hl, if_true] at g3
    refine ⟨.loc μ.length :: ds, G, L ++ [(x, dx)], _, .cons rx (RpA.mono st.g st.l _ _ r), hl, w1, Good.mono (Good.bind g3) fun d m2 G2 H2 L2 st2 w2 q2 v rv => ?_⟩
    cases d with
    | non =>
      cases rv
      have q3 : Good k X.K E G2 H2 L2 (frzI (.loc μ.length) m2) (QV k X.K Q) := q2
      refine ⟨rfl, ?_⟩
      unfold frzI at q3
      simp only at q3
      cases hm : m2[μ.length]? with
      | none => rw [hm] at q3; exact False.elim q3
      | some o =>
        cases o with
        | none => rw [hm] at q3; exact False.elim q3
        | some cc =>
          cases cc with
          | lst _ => rw [hm] at q3; exact False.elim q3
          | ins c' ss =>
            rw [hm] at q3
            simp only at q3
            cases ha : allSome ss with
            | none => rw [ha] at q3; exact False.elim q3
            | some es =>
              rw [ha] at q3
              have e := allSome_of ha
              subst e
              obtain ⟨G3, st3, w3, r3⟩ := w2.freezeIns hm (Rp.mono st2.g st2.l _ _ rx)
              exact q3 G3 H2 L2 st3 w3 _ r3
    | _ => exact False.elim q2
  · simp only [hl, if_false] at g3
    exact False.elim g3
theorem j_make {x : Str} {p pos : Pos} {a : Expr} {es : List Expr} {ms : DEnv → M (List D)} {lvl c n : Nat} {f : Addr} {den : List D → M D} (Mc : Mk X.K (k.cl c) f) (F : FnDn k X lvl f n den) (hr : Room (lvl + 1) X.A) (hx : Passes (L2.CX X.prog X.w) X E) (hg : Gl X x) (hm : X.mg x = some (.ref (k.cl c)))
    (ha : JA k X E (a :: es) ms) (hdb : (x == ("__debug__" : Str)) = false := by decide) (he : starEach (a :: es) X.env = (false, eval a X.env) :: starEach es X.env := by rfl) (hpl : (backTo pos (starEach es X.env)).any (·.1) = false := by rfl) :
    JE k X E (.Call (.Name x p) (a :: es) [] pos) (eCallB (makeD c n den) ms) := by
  refine PE.imp (StX.pe_makeR Mc F hr hg hm hx ha hdb he hpl) fun s H Q h => ?_
  obtain ⟨e, G, L, μ, sg, w, gd⟩ := h
  exact ⟨e, G, L, μ, sg, w, Good.mono (Good.bind gd) fun ds m1 G1 H1 L1 st1 w1 q1 vs r => make_good r w1 q1⟩
end
end DL

namespace DL
open PySem L2 PyProof.Rows

section
variable {k : Kx} {X : Cx} {E : XK}
/-! ### x op y by an own def of x's class -/
def argOk (cls : Nat) (y : D) (m : Store) : Bool := match y with
  | .int _ => true
  | y => decide (clsD y m = some cls)
def ownB (tab : MTab) (g0 : D → D → M D) (x y : D) : M D := fun m => match clsD x m with
  | some c => match tab.lookup c with
    | some p => if argOk c y m = true then callN p.1 p.2 [x, y] m else .bad
    | none => .bad
  | none => g0 x y m
structure Ob1 (k : Kx) (X : Cx) (op : Operator) (c n : Nat) (den : List D → M D) : Prop where
  sf : PySem.W.selfFirst X.K (k.cl c) = true
  ex : ∃ g lvl, PySem.W.findIn X.K (.ref (k.cl c)) (PySem.dunder op.info.2) = some (some (.ref g)) ∧ PySem.W.isFn X.K (.ref g) = true ∧ FnDn k X lvl g n den ∧ Room lvl X.A
  rc : PySem.W.findIn X.K (.ref (k.cl c)) (dunderR op.info.2) = some none
  i1 : ∃ fo, PySem.W.findIn X.K (.type "int") (PySem.dunder op.info.2) = some fo
  i2 : ∃ ro, PySem.W.findIn X.K (.type "int") (dunderR op.info.2) = some ro
  i3 : PySem.W.subIn X.K (.type "int") (.ref (k.cl c)) = some false
def ObAll (k : Kx) (X : Cx) (op : Operator) : MTab → Prop
  | [] => True
  | p :: r => Ob1 k X op p.1 p.2.1 p.2.2 ∧ ObAll k X op r
theorem obAll_of {op : Operator} {c : Nat} {q : Nat × (List D → M D)} : ∀ {tab : MTab}, ObAll k X op tab → tab.lookup c = some q → Ob1 k X op c q.1 q.2
  | [], _, h => by cases h
  | p :: r, F, h => by
    rw [List.lookup_cons] at h
    by_cases hc : c == p.1
    · rw [hc] at h
      cases h
      rw [beq_iff_eq.mp hc]
      exact F.1
    · rw [Bool.eq_false_iff.mpr hc] at h
      exact obAll_of F.2 h
def rOB (k : Kx) (K : PySem.W.Frag) (E : XK) (tab : MTab) : R2 := fun x y H Q => ∃ a c dx vs n den, x = .ref a ∧ SlX.Slt H a (k.cl c) dx vs ∧ tab.lookup c = some (n, den) ∧ ((∃ b dy ws, y = .ref b ∧ SlX.Slt H b (k.cl c) dy ws) ∨ ∃ i, y = .int i) ∧ spD k K n den [x, y] H Q E
theorem op_OB {op : Operator} {tab : MTab} (F : ObAll k X op tab) (hx : Passes (L2.CX X.prog X.w) X E) : OpR X (binaryOp op) (rOB k X.K E tab) := by
  intro pins s σ H x y v u Q I rx ry h
  obtain ⟨a, c, dx, vs, n, den, rfl, hs, ht, hy, q⟩ := h
  obtain ⟨sf, ⟨g, lvl, f1, f2, Fn, hr⟩, rc, ⟨fo, i1⟩, ⟨ro, i2⟩, i3⟩ := obAll_of F ht
  cases (show v = Value.ref a from rx)
  obtain ⟨sl, od, _, J, _⟩ := SlX.slt_inst I hs
  obtain ⟨m, hF⟩ := I.fr
  have fin : wpAny (model X.prog X.w) X.A (call (.ref g) [.ref a, u]) (PySem.W.CmpBack (EP X pins σ Q)) X.xe s := by
    refine wpAny_mono (wpAny_call (run_fnR (us := [.ref a, u]) (vs := [.ref a, y]) Fn hr hx I (.cons rfl (.cons ry .nil)) q)) (fun w s' z => ?_) fun _ _ x => x
    obtain ⟨z', H', I', rz, qz⟩ := z
    exact SlX.cmpback rz ⟨z', H', I', rz, qz⟩
  rcases hy with ⟨b, dy, ws, rfl, hb⟩ | ⟨i, rfl⟩
  · cases (show u = Value.ref b from ry)
    obtain ⟨sl', od', _, J', _⟩ := SlX.slt_inst I hb
    exact PySem.W.binop_K hF I.ok.mod.kin J J'.type sf f1 f2 fin
  · obtain ⟨t, rfl⟩ := (show ∃ t, u = Value.int i t from ry)
    exact PySem.W.ksp_binT (T := "int") hF I.ok.mod.kin J rfl sf f1 f2 rc (.inl rfl) i1 i2 i3 fin
theorem b_own {op : Operator} {tab : MTab} {g0 : D → D → M D} (F : ObAll k X op tab) (hx : Passes (L2.CX X.prog X.w) X E) (h0 : BinD k X E (binaryOp op) g0) : BinD k X E (binaryOp op) (ownB tab g0) := by
  obtain ⟨r0, h1, h2⟩ := h0
  refine ⟨_, OpR.or h1 (op_OB F hx), fun x y dx dy G H L μ Q rx ry w g => ?_⟩
  unfold ownB at g
  cases hc : clsD dx μ with
  | none =>
    simp only [hc] at g
    exact .inl (h2 x y dx dy G H L μ Q rx ry w g)
  | some c =>
    simp only [hc] at g
    cases ht : tab.lookup c with
    | none => simp only [ht] at g; exact False.elim g
    | some p =>
      simp only [ht] at g
      by_cases ho : argOk c dy μ = true
      · rw [if_pos ho] at g
        obtain ⟨hl, g⟩ := good_ite g
        obtain ⟨a, dx', vs, rfl, hs⟩ := slt_of rx w hc
        refine .inr ⟨a, c, dx', vs, p.1, p.2, rfl, hs, ht, ?_, [dx, dy], G, L, μ, .cons rx (.cons ry .nil), hl, w, g⟩
        cases dy with
        | int i => cases ry; exact .inr ⟨i, rfl⟩
        | _ =>
          obtain ⟨b, dy', ws, rfl, hb⟩ := slt_of ry w (of_decide_eq_true ho)
          exact .inl ⟨b, dy', ws, rfl, hb⟩
      · rw [if_neg ho] at g
        exact False.elim g
/-! ### -x -/
def ownU (tab : MTab) (g0 : D → M D) (x : D) : M D := fun m => match clsD x m with
  | some c => match tab.lookup c with
    | some p => callN p.1 p.2 [x] m
    | none => .bad
  | none => g0 x m
def Ou1 (k : Kx) (X : Cx) (nm : Str) (c n : Nat) (den : List D → M D) : Prop := ∃ g lvl, PySem.W.findIn X.K (.ref (k.cl c)) nm = some (some (.ref g)) ∧ PySem.W.isFn X.K (.ref g) = true ∧ FnDn k X lvl g n den ∧ Room lvl X.A
def OuAll (k : Kx) (X : Cx) (nm : Str) : MTab → Prop
  | [] => True
  | p :: r => Ou1 k X nm p.1 p.2.1 p.2.2 ∧ OuAll k X nm r
theorem ouAll_of {nm : Str} {c : Nat} {q : Nat × (List D → M D)} : ∀ {tab : MTab}, OuAll k X nm tab → tab.lookup c = some q → Ou1 k X nm c q.1 q.2
  | [], _, h => by cases h
  | p :: r, F, h => by
    rw [List.lookup_cons] at h
    by_cases hc : c == p.1
    · rw [hc] at h
      cases h
      rw [beq_iff_eq.mp hc]
      exact F.1
    · rw [Bool.eq_false_iff.mpr hc] at h
      exact ouAll_of F.2 h
def rOU (k : Kx) (K : PySem.W.Frag) (E : XK) (tab : MTab) : V → Hp → VK → Prop := fun x H Q => ∃ a c dx vs n den, x = .ref a ∧ SlX.Slt H a (k.cl c) dx vs ∧ tab.lookup c = some (n, den) ∧ spD k K n den [x] H Q E
theorem UnR.or {f : Value → Sem Value} {r r' : V → Hp → VK → Prop} (h : UnR X f r) (h' : UnR X f r') : UnR X f (fun x H Q => r x H Q ∨ r' x H Q) := by
  intro pins s σ H x v Q I rx q
  rcases q with q | q
  · exact h pins s σ H x v Q I rx q
  · exact h' pins s σ H x v Q I rx q
theorem un_OU {tab : MTab} (F : OuAll k X "__neg__" tab) (hx : Passes (L2.CX X.prog X.w) X E) : UnR X (unaryOp .USub) (rOU k X.K E tab) := by
  intro pins s σ H x v Q I rx h
  obtain ⟨a, c, dx, vs, n, den, rfl, hs, ht, q⟩ := h
  obtain ⟨g, lvl, f1, f2, Fn, hr⟩ := ouAll_of F ht
  cases (show v = Value.ref a from rx)
  obtain ⟨sl, od, _, J, _⟩ := SlX.slt_inst I hs
  obtain ⟨m, hF⟩ := I.fr
  exact PySem.W.ksp_neg hF I.ok.mod.kin J f1 f2 (wpAny_call (run_fnR (us := [.ref a]) (vs := [.ref a]) Fn hr hx I (.cons rfl .nil) q))
theorem u_own {tab : MTab} {g0 : D → M D} (F : OuAll k X "__neg__" tab) (hx : Passes (L2.CX X.prog X.w) X E) (h0 : MonD k X E (unaryOp .USub) g0) : MonD k X E (unaryOp .USub) (ownU tab g0) := by
  obtain ⟨r0, h1, h2⟩ := h0
  refine ⟨_, UnR.or h1 (un_OU F hx), fun x dx G H L μ Q rx w g => ?_⟩
  unfold ownU at g
  cases hc : clsD dx μ with
  | none =>
    simp only [hc] at g
    exact .inl (h2 x dx G H L μ Q rx w g)
  | some c =>
    simp only [hc] at g
    cases ht : tab.lookup c with
    | none => simp only [ht] at g; exact False.elim g
    | some p =>
      simp only [ht] at g
      obtain ⟨hl, g⟩ := good_ite g
      obtain ⟨a, dx', vs, rfl, hs⟩ := slt_of rx w hc
      exact .inr ⟨a, c, dx', vs, p.1, p.2, rfl, hs, ht, [dx], G, L, μ, .cons rx .nil, hl, w, g⟩
/-! ### ==, != by an own __eq__ -/
/-- the kinds of the other side: built-in ones, or the law's classes cs -/
structure Oe1 (k : Kx) (X : Cx) (cs : List Nat) (c n : Nat) (den : List D → M D) : Prop where
  ex : ∃ g lvl, PySem.W.findIn X.K (.ref (k.cl c)) "__eq__" = some (some (.ref g)) ∧ PySem.W.isFn X.K (.ref g) = true ∧ FnDn k X lvl g n den ∧ Room (lvl + 1) X.A
  ne : PySem.W.findIn X.K (.ref (k.cl c)) "__ne__" = some (some (.builtin "object.__ne__"))
  mo : PySem.W.mroIn X.K (k.cl c) (.type "object") = some true
  nb : ∀ kd, (∀ c, kd ≠ .obj c) → PySem.W.notFirst X.K (k.cl c) (.type (nmK kd)) = true
  no : ∀ c' ∈ cs, PySem.W.notFirst X.K (k.cl c) (.ref (k.cl c')) = true
def OeAll (k : Kx) (X : Cx) (cs : List Nat) : MTab → Prop
  | [] => True
  | p :: r => Oe1 k X cs p.1 p.2.1 p.2.2 ∧ OeAll k X cs r
theorem oeAll_of {cs : List Nat} {c : Nat} {q : Nat × (List D → M D)} : ∀ {tab : MTab}, OeAll k X cs tab → tab.lookup c = some q → Oe1 k X cs c q.1 q.2
  | [], _, h => by cases h
  | p :: r, F, h => by
    rw [List.lookup_cons] at h
    by_cases hc : c == p.1
    · rw [hc] at h
      cases h
      rw [beq_iff_eq.mp hc]
      exact F.1
    · rw [Bool.eq_false_iff.mpr hc] at h
      exact oeAll_of F.2 h
def rOE (k : Kx) (K : PySem.W.Frag) (E : XK) (cs : List Nat) (tab : MTab) (neg : Bool) : R2 := fun x y H Q => ∃ a c dx vs n den, x = .ref a ∧ SlX.Slt H a (k.cl c) dx vs ∧ tab.lookup c = some (n, den) ∧
  ((∃ kd, (∀ c, kd ≠ .obj c) ∧ TyX K H y (.type (nmK kd))) ∨ ∃ c' b dy ws, c' ∈ cs ∧ y = .ref b ∧ SlX.Slt H b (k.cl c') dy ws) ∧ spD k K n den [x, y] H (fun z H' => if neg = true then ∃ b, z = .bl b ∧ Q (.bl (!b)) H' else Q z H') E
theorem cmp_ne_K {prog : Program} {w : World} {A : Around} {E : Value → Shared → Prop} {s : Shared} {K : PySem.W.Frag} {x C L f : Addr} {h₀ : Heap} {m : Str → Option Value} {ox : Obj} {od : Option Obj} {b tb : Value} {Q : Value → Shared → Prop} (hu : A.units + 1 < cLine) (Fx : Fr h₀ L s.heap m) (X₀ : K.In h₀) (I : PySem.W.InstAt s.heap x ox C od)
    (hb : PySem.W.Looks (model prog w) s.heap (typeOf b) tb) (hn : PySem.W.notFirst K C tb = true) (hne : PySem.W.findIn K (.ref C) "__ne__" = some (some (.builtin "object.__ne__"))) (hmo : PySem.W.mroIn K C (.type "object") = some true)
    (hs : PySem.W.findIn K (.ref C) "__eq__" = some (some (.ref f))) (hf : PySem.W.isFn K (.ref f) = true)
    (h : wpAny (model prog w) A.in1 (call (.ref f) [.ref x, b]) (fun v s' => ∃ r, v = .bool r ∧ Q (.bool (!r)) s') E s) : wpAny (model prog w) A (richCompare .NotEq (.ref x) b) Q E s := by
  have X := X₀.keeps Fx.keep
  have sub : PySem.W.Looks (model prog w) s.heap (isInstance (.ref x) (.type "object")) true := I.type.andThen (PySem.W.looks_mroIn X hmo)
  have ent : wpAny (model prog w) A.in1 (Builtin.«object.__ne__» ⟨[.ref x, b], []⟩) (fun fin s' => ∃ r, fin = .done (.ret (.bool r)) ∧ Q (.bool r) s') E s := by
    unfold Builtin.«object.__ne__»
    refine wpAny_bind (wpAny_of_eq (a := (.ref x, [b])) (by first | rfl | kernel_rfl) ?_)
    dsimp only
    refine wpAny_bind (wpAny_cRoomFor hu ?_)
    refine wpAny_bind (PySem.W.ifBound_K X I hs hf (wpAny_mono h (fun v s' hv => ?_) fun _ _ e => e))
    obtain ⟨r, rfl, hq⟩ := hv
    dsimp only
    exact wpAny_bind (wpAny_truthy_bool (wpAny_pure ⟨_, rfl, hq⟩))
  have cal : wpAny (model prog w) A (call (.builtin "object.__ne__") [.ref x, b]) (fun v s' => ∃ r, v = .bool r ∧ Q (.bool r) s') E s :=
    wpAny_call (codeAny_call_builtin F.cmp_object.ne.plain F.cmpEntry_ne (PySem.W.check_slot F.cmpKind_ne F.cmpSplit_ne sub (F.cmpArgs_ne _ _) (wpAny_mono ent (fun fin s' z => by obtain ⟨v, rfl, q⟩ := z; exact ⟨v, rfl, q⟩) fun _ _ e => e)))
  have spc : wpAny (model prog w) A (callSpecialIfBound? (.ref x) "__ne__" [b]) (fun v s' => ∃ r, v = some (.bool r) ∧ Q (.bool r) s') E s := by
    simp only [callSpecialIfBound?, bindSpecialIfBound?]
    refine wpAny_holding (wpAny_bind (wpAny_bind (wpAny_bind (I.type.here ((PySem.W.looks_findIn X hne).here ?_)))))
    refine wpAny_bind (wpAny_askSetting (wpAny_ite ?_))
    have fin : wpAny (model prog w) A (call (.builtin "object.__ne__") ([.ref x] ++ [b]) >>= fun v => pure (some v)) (fun v s' => ∃ r, v = some (.bool r) ∧ Q (.bool r) s') E s := wpAny_bind (wpAny_mono cal (fun v s' h' => wpAny_pure (by obtain ⟨r, rfl, q⟩ := h'; exact ⟨r, rfl, q⟩)) fun _ _ h' => h')
    split
    · exact wpAny_bind (wpAny_of_eq (F.cmp_object.ne.bind _) (wpAny_pure (by exact fin)))
    · exact wpAny_tryCatch (wpAny_bind (wpAny_of_eq (F.cmp_object.ne.bind _) (wpAny_pure (by exact fin))))
  have one : wpAny (model prog w) A (tryCompare (.ref x) (cmpInfo .NotEq).2.1 b) (fun r s' => ∃ v, r = some v ∧ Q v s') E s := by
    unfold tryCompare
    refine wpAny_bind (wpAny_mono spc (fun v s' hv => ?_) fun _ _ e => e)
    obtain ⟨r, rfl, hq⟩ := hv
    exact wpAny_pure ⟨_, rfl, hq⟩
  unfold richCompare
  simp only [oneThing_ref]
  refine wpAny_holding (wpAny_bind (wpAny_cRoomFor (Nat.lt_of_succ_lt hu) ?_))
  refine wpAny_bind (I.type.here (wpAny_bind (hb.here ?_)))
  split
  · rename_i q
    have e : PySem.W.subIn K tb (.ref C) = some false := by
      rcases Bool.or_eq_true_iff.mp hn with e | e
      · rw [beq_iff_eq.mp e] at q; simp at q
      · exact beq_iff_eq.mp e
    refine wpAny_bind ((PySem.W.looks_subIn X e).here ?_)
    simp only [Bool.false_eq_true, if_false]
    refine wpAny_bind (wpAny_mono one (fun r s' z => ?_) fun _ _ e => e)
    obtain ⟨v, rfl, hq⟩ := z
    exact wpAny_pure hq
  · refine wpAny_bind (wpAny_pure ?_)
    simp only [Bool.false_eq_true, if_false]
    refine wpAny_bind (wpAny_mono one (fun r s' z => ?_) fun _ _ e => e)
    obtain ⟨v, rfl, hq⟩ := z
    exact wpAny_pure hq
theorem rOE_ty {cs : List Nat} {C : Addr} {H : Hp} {pins : List (Addr × Obj)} {σ : L2.St} {s : Shared} {y : V} {u : Value} (I : L2.Inv X pins σ H s) (ry : L2.RelV y u) (nb : ∀ kd, (∀ c, kd ≠ .obj c) → PySem.W.notFirst X.K C (.type (nmK kd)) = true)
    (no : ∀ c' ∈ cs, PySem.W.notFirst X.K C (.ref (k.cl c')) = true) (h : (∃ kd, (∀ c, kd ≠ .obj c) ∧ TyX X.K H y (.type (nmK kd))) ∨ ∃ c' b dy ws, c' ∈ cs ∧ y = .ref b ∧ SlX.Slt H b (k.cl c') dy ws) :
    ∃ tb, PySem.W.Looks (model X.prog X.w) s.heap (typeOf u) tb ∧ PySem.W.notFirst X.K C tb = true := by
  rcases h with ⟨kd, n, t⟩ | ⟨c', b, dy, ws, hc, rfl, hs⟩
  · obtain ⟨P, kx, hp, _⟩ := kit_of I ry t
    exact ⟨_, kx.ty _ _ I.kIn hp, nb kd n⟩
  · cases (show u = Value.ref b from ry)
    obtain ⟨sl, od, _, J, _⟩ := SlX.slt_inst I hs
    exact ⟨_, J.type, no c' hc⟩
theorem op_OE {cs : List Nat} {tab : MTab} (F : OeAll k X cs tab) (hx : Passes (L2.CX X.prog X.w) X E) (hu : X.A.units + 64 < cLine) : OpR X (compareOp .Eq) (rOE k X.K E cs tab false) := by
  intro pins s σ H x y v u Q I rx ry h
  obtain ⟨a, c, dx, vs, n, den, rfl, hs, ht, hy, q⟩ := h
  obtain ⟨⟨g, lvl, f1, f2, Fn, hr⟩, ne, mo, nb, no⟩ := oeAll_of F ht
  cases (show v = Value.ref a from rx)
  obtain ⟨tb, hb, hn⟩ := rOE_ty I ry nb no hy
  obtain ⟨sl, od, _, J, _⟩ := SlX.slt_inst I hs
  obtain ⟨m, hF⟩ := I.fr
  refine PySem.W.cmp_K (op := .Eq) (Nat.lt_of_le_of_lt (Nat.le_add_right _ _) hu) hF I.ok.mod.kin J hb hn f1 f2 ?_
  refine wpAny_mono (wpAny_call (run_fnR (us := [.ref a, u]) (vs := [.ref a, y]) Fn (Room.mono hr (Nat.le_succ _)) hx I (.cons rfl (.cons ry .nil)) q)) (fun w s' z => ?_) fun _ _ x => x
  obtain ⟨z', H', I', rz, qz⟩ := z
  exact SlX.cmpback rz ⟨z', H', I', rz, qz⟩
theorem op_ONE {cs : List Nat} {tab : MTab} (F : OeAll k X cs tab) (hx : Passes (L2.CX X.prog X.w) X E) (hu : X.A.units + 64 < cLine) : OpR X (compareOp .NotEq) (rOE k X.K E cs tab true) := by
  intro pins s σ H x y v u Q I rx ry h
  obtain ⟨a, c, dx, vs, n, den, rfl, hs, ht, hy, q⟩ := h
  obtain ⟨⟨g, lvl, f1, f2, Fn, hr⟩, ne, mo, nb, no⟩ := oeAll_of F ht
  cases (show v = Value.ref a from rx)
  obtain ⟨tb, hb, hn⟩ := rOE_ty I ry nb no hy
  obtain ⟨sl, od, _, J, _⟩ := SlX.slt_inst I hs
  obtain ⟨m, hF⟩ := I.fr
  refine cmp_ne_K (Nat.lt_of_le_of_lt (Nat.add_le_add_left (by decide) _) hu) hF I.ok.mod.kin J hb hn ne mo f1 f2 ?_
  refine wpAny_mono (wpAny_call (SlX.run_at (us := [.ref a, u]) (ws := [.ref a, y]) Fn hr.in1 I.env0.in1 hx I (.cons rfl (.cons ry .nil)) q)) (fun w s' z => ?_) fun _ _ x => x
  obtain ⟨z', H', I', rz, b, rfl, qz⟩ := z
  cases (show w = Value.bool b from rz)
  exact ⟨b, rfl, .bl (!b), H', I', rfl, qz⟩
def flipD : Bool → D → M D
  | false, d => pure d
  | true, .bl b => pure (.bl (!b))
  | true, _ => fun _ => .bad
def ownE (cs : List Nat) (tab : MTab) (neg : Bool) (g0 : D → D → M D) (x y : D) : M D := fun m => match clsD x m with
  | some c => match tab.lookup c with
    | some p => match kindOf cs y m with
      | some _ => (callN p.1 p.2 [x, y] >>= flipD neg) m
      | none => .bad
    | none => .bad
  | none => g0 x y m
theorem ownE_op {cs : List Nat} {tab : MTab} {neg : Bool} {g0 : D → D → M D} {op : CmpOp} {r0 : R2} (h1 : OpR X (compareOp op) (rOE k X.K E cs tab neg)) (o0 : OpR X (compareOp op) r0) (h2 : OpD k X.K E r0 g0) : BinD k X E (compareOp op) (ownE cs tab neg g0) := by
  refine ⟨_, OpR.or o0 h1, fun x y dx dy G H L μ Q rx ry w g => ?_⟩
  unfold ownE at g
  cases hc : clsD dx μ with
  | none =>
    simp only [hc] at g
    exact .inl (h2 x y dx dy G H L μ Q rx ry w g)
  | some c =>
    simp only [hc] at g
    cases ht : tab.lookup c with
    | none => simp only [ht] at g; exact False.elim g
    | some p =>
      simp only [ht] at g
      cases hk : kindOf cs dy μ with
      | none => simp only [hk] at g; exact False.elim g
      | some kd =>
        simp only [hk] at g
        obtain ⟨a, dx', vs, rfl, hs⟩ := slt_of rx w hc
        have g1 := Good.bind g
        obtain ⟨hl, g2⟩ := good_ite g1
        refine .inr ⟨a, c, dx', vs, p.1, p.2, rfl, hs, ht, ?_, [dx, dy], G, L, μ, .cons rx (.cons ry .nil), hl, w, ?_⟩
        · by_cases no : ∀ c, kd ≠ .obj c
          · exact .inl ⟨kd, no, tyx_of ry w hk no⟩
          · have no' : ∃ c, kd = .obj c := by
              cases kd with
              | obj c => exact ⟨c, rfl⟩
              | _ => exact absurd (fun c z => nomatch z) no
            obtain ⟨cc, rfl⟩ := no'
            cases dy with
            | obj c' ds =>
              simp only [kindOf] at hk
              by_cases hcs : c' ∈ cs
              · rw [if_pos hcs] at hk
                cases hk
                cases ry with
                | @obj _ b dy' ws _ hs' ha => exact .inr ⟨cc, b, dy', _, hcs, rfl, slt_mono w.ext hs'⟩
              · rw [if_neg hcs] at hk
                cases hk
            | loc n =>
              simp only [kindOf] at hk
              cases hm : μ[n]? with
              | none => rw [hm] at hk; cases hk
              | some o =>
                cases o with
                | none => rw [hm] at hk; cases hk
                | some c' => cases c' <;> (rw [hm] at hk; cases hk)
            | _ => cases hk
        · refine Good.mono g2 fun d1 m1 G1 H1 L1 st1 w1 q1 z rz => ?_
          cases neg with
          | false => exact Good.okE q1 w1 z rz
          | true =>
            cases d1 with
            | bl b => cases rz; exact ⟨b, rfl, Good.okE q1 w1 _ (.bl _)⟩
            | _ => exact False.elim q1
theorem b_eqO {cs : List Nat} {tab : MTab} (F : OeAll k X cs tab) (hx : Passes (L2.CX X.prog X.w) X E) (hu : X.A.units + 64 < cLine) : BinD k X E (compareOp .Eq) (ownE cs tab false eqD) := by
  obtain ⟨r, h1, h2⟩ := b_eq (k := k) (E := E) hu
  exact ownE_op (op_OE F hx hu) h1 h2
theorem b_neO {cs : List Nat} {tab : MTab} (F : OeAll k X cs tab) (hx : Passes (L2.CX X.prog X.w) X E) (hu : X.A.units + 64 < cLine) : BinD k X E (compareOp .NotEq) (ownE cs tab true neD) := by
  obtain ⟨r, h1, h2⟩ := b_ne (k := k) (E := E) hu
  exact ownE_op (op_ONE F hx hu) h1 h2
end
end DL

namespace DL
open PySem L2 PyProof.Rows

section
variable {k : Kx} {X : Cx} {E : XK}
/-! ### a, b = x, y -/
def sParA (i j : Nat) (as : DEnv → M (List D)) : DEnv → M Out := fun e => do
  let ds ← as e
  match ds with
  | [x, y] => pure (.nx ((e.set i (some x)).set j (some y)))
  | _ => M.bad
theorem js_par (i j : Nat) {x y : Str} {a b : Expr} {ms : DEnv → M (List D)} {px py pt pos : Pos} {kt k2 pt2} (hc : X.calm = true) (hN : X.N.Nodup) (hi : X.N[i]? = some x) (hj : X.N[j]? = some y) (hij : i ≠ j)
    (hx : X.env.scope.names.lookup x = some .local) (hy : X.env.scope.names.lookup y = some .local) (ha : JA k X E [a, b] ms)
    (hw : swappedStores [.Tuple [.Name x px, .Name y py] kt pt] (.Tuple [a, b] k2 pt2) X.env = pure (some [x, y]))
    (hs : swapsWithSole [.Tuple [.Name x px, .Name y py] kt pt] (.Tuple [a, b] k2 pt2) pos.line X.env = pure false := by rfl) :
    JS k X E (.Assign [.Tuple [.Name x px, .Name y py] kt pt] (.Tuple [a, b] k2 pt2) pos) (sParA i j ms) := by
  refine PS.imp (ps_par hc hN hi hj hij hx hy ha hw hs) fun Ds s H h => ?_
  obtain ⟨e, G, L, μ, sg, w, gd⟩ := h
  refine ⟨e, G, L, μ, sg, w, Good.mono (Good.bind gd) fun ds m1 G1 H1 L1 st1 w1 q1 vs r => ?_⟩
  match ds, r, q1 with
  | [dx, dy], .cons r1 (.cons r2 .nil), q1 => exact ⟨_, _, rfl, Good.ret q1 w1 _ (((sg.mono st1.g st1.l).set i r1).set j r2)⟩
  | [], _, q1 => exact False.elim q1
  | [_], _, q1 => exact False.elim q1
  | _ :: _ :: _ :: _, _, q1 => exact False.elim q1
/-! ### what is never reached -/
def sBad : DEnv → M Out := fun _ => M.bad
def eBad : DEnv → M D := fun _ => M.bad
theorem js_bad {s : Stmt} : JS k X E s sBad := ⟨fun pins s σ H D I h => by
  obtain ⟨e, G, L, μ, sg, w, gd⟩ := h
  exact False.elim gd⟩
theorem jb_bad {s : List Stmt} : JB k X E s sBad := ⟨fun pins s σ H D I h => by
  obtain ⟨e, G, L, μ, sg, w, gd⟩ := h
  exact False.elim gd⟩
theorem j_bad {s : Expr} : JE k X E s eBad := ⟨fun pins s σ H D I h => by
  obtain ⟨e, G, L, μ, sg, w, gd⟩ := h
  exact False.elim gd⟩
/-! ### an instance called -/
def objM (c : Nat) : D → M Unit
  | .obj c' _ => if c' = c then pure () else M.bad
  | _ => M.bad
def eCallO (c n : Nat) (den : List D → M D) (o : DEnv → M D) (as : DEnv → M (List D)) : DEnv → M D := fun e => do
  let x ← o e
  objM c x
  let ds ← as e
  callN n den (x :: ds)
theorem objM_good {β : Type} {d : D} {c : Nat} {f : Unit → M β} {G H : Hp} {L : Lam} {μ : Store} {Q : β → Store → Hp → Hp → Lam → Prop} (g : Good k X.K E G H L ((objM c d >>= f) μ) Q) : ∃ ds, d = .obj c ds ∧ Good k X.K E G H L (f () μ) Q := by
  cases d with
  | obj c' ds =>
    unfold objM at g
    by_cases h : c' = c
    · subst h
      simp only [if_true] at g
      exact ⟨ds, rfl, g⟩
    · simp only [h, if_false] at g
      exact False.elim g
  | _ => exact False.elim g
theorem j_callO {fe a : Expr} {es : List Expr} {mo : DEnv → M D} {ms : DEnv → M (List D)} {pos : Pos} {c n lvl : Nat} {g : Addr} {den : List D → M D} (hf : JE k X E fe mo) (cc : StX.CallO X.K (k.cl c) g) (F : FnDn k X lvl g n den) (hr : Room lvl X.A) (hx : Passes (L2.CX X.prog X.w) X E) (ha : JA k X E (a :: es) ms)
    (ht : eval (.Call fe (a :: es) [] pos) X.env = (do callWith pos (← eval fe X.env) [] (backTo pos (starEach (a :: es) X.env)) (backToKw pos (keywordEach [] X.env))) := by rfl)
    (he : starEach (a :: es) X.env = (false, eval a X.env) :: starEach es X.env := by rfl) (hpl : (backTo pos (starEach es X.env)).any (·.1) = false := by rfl) : JE k X E (.Call fe (a :: es) [] pos) (eCallO c n den mo ms) := by
  refine PE.imp (StX.pe_callO hf cc F hr hx ha ht he hpl) fun s H Q h => ?_
  obtain ⟨e, G, L, μ, sg, w, gd⟩ := h
  refine ⟨e, G, L, μ, sg, w, Good.mono (Good.bind gd) fun d m1 G1 H1 L1 st1 w1 q1 x r => ?_⟩
  obtain ⟨xs, rfl, q1⟩ := objM_good q1
  obtain ⟨a, dx, vs, rfl, hs⟩ := slt_of r w1 rfl
  refine ⟨a, rfl, e, G1, L1, m1, sg.mono st1.g st1.l, w1, Good.mono (Good.bind q1) fun ds m2 G2 H2 L2 st2 w2 q2 ws rw' => ?_⟩
  obtain ⟨hl, q2⟩ := good_ite q2
  have r2 := Rp.mono st2.g st2.l _ _ r
  obtain ⟨a', dx', vs', e2, hs2⟩ := slt_of r2 w2 rfl
  cases e2
  exact ⟨.inl ⟨_, _, hs2⟩, _ :: ds, G2, L2, m2, .cons r2 rw', hl, w2, q2⟩
/-! ### C.m(e, ..), m a classmethod -/
def eCM (c n : Nat) (den : List D → M D) (as : DEnv → M (List D)) : DEnv → M D := eCallB (fun ds => callN n den (.cls c :: ds)) as
theorem j_cmeth {x m : Str} {p apos pos : Pos} {a : Expr} {es : List Expr} {ms : DEnv → M (List D)} {lvl c n : Nat} {pr g : Addr} {mc : Value} {den : List D → M D} {pl : Sem Bool} (r : ClX.CRead X.K (k.cl c) mc) (cm : ClX.CMet X.K (k.cl c) mc m pr g) (F : FnDn k X lvl g n den) (hr : Room lvl X.A) (hx : Passes (L2.CX X.prog X.w) X E) (hg : Gl X x) (hm : X.mg x = some (.ref (k.cl c)))
    (ha : JA k X E (a :: es) ms) (hdb : (x == ("__debug__" : Str)) = false := by decide) (hst : starEach (a :: es) X.env = (false, eval a X.env) :: starEach es X.env := by rfl) (hpl : (backTo pos (starEach es X.env)).any (·.1) = false := by rfl)
    (ht : eval (.Call (.Attribute (.Name x p) m apos) (a :: es) [] pos) X.env = (do
      let ov ← eval (.Name x p) X.env
      standAt apos.atName
      let (f, first) ← holding [ov] (getMethod ov m pl)
      callWith pos f first (backTo pos (starEach (a :: es) X.env)) (backToKw pos (keywordEach [] X.env))) := by rfl) :
    JE k X E (.Call (.Attribute (.Name x p) m apos) (a :: es) [] pos) (eCM c n den ms) := by
  refine PE.imp (ClX.pe_cmeth (pe_glob (v := .ref (k.cl c)) hg hm rfl hdb) r cm F hr hx ha hst hpl ht) fun s H Q h => ?_
  obtain ⟨e, G, L, μ, sg, w, gd⟩ := h
  refine ⟨rfl, e, G, L, μ, sg, w, Good.mono (Good.bind gd) fun ds m1 G1 H1 L1 st1 w1 q1 vs r => ?_⟩
  obtain ⟨hl, q2⟩ := good_ite q1
  exact ⟨.cls c :: ds, G1, L1, m1, .cons (.cls c) r, hl, w1, q2⟩
/-! ### a class at hand called -/
def clsIs (c : Nat) : D → M Unit
  | .cls c' => if c' = c then pure () else M.bad
  | _ => M.bad
def eMkV (c n : Nat) (den : List D → M D) (f : DEnv → M D) (as : DEnv → M (List D)) : DEnv → M D := fun e => do
  let x ← f e
  clsIs c x
  let ds ← as e
  makeD c n den ds
theorem clsIs_good {β : Type} {d : D} {c : Nat} {f : Unit → M β} {G H : Hp} {L : Lam} {μ : Store} {Q : β → Store → Hp → Hp → Lam → Prop} (g : Good k X.K E G H L ((clsIs c d >>= f) μ) Q) : d = .cls c ∧ Good k X.K E G H L (f () μ) Q := by
  cases d with
  | cls c' =>
    unfold clsIs at g
    by_cases h : c' = c
    · subst h
      simp only [if_true] at g
      exact ⟨rfl, g⟩
    · simp only [h, if_false] at g
      exact False.elim g
  | _ => exact False.elim g
theorem j_mkV {fe a : Expr} {es : List Expr} {mo : DEnv → M D} {ms : DEnv → M (List D)} {pos : Pos} {c n lvl : Nat} {f : Addr} {den : List D → M D} (hf : JE k X E fe mo) (Mc : Mk X.K (k.cl c) f) (F : FnDn k X lvl f n den) (hr : Room (lvl + 1) X.A) (hx : Passes (L2.CX X.prog X.w) X E) (ha : JA k X E (a :: es) ms)
    (ht : eval (.Call fe (a :: es) [] pos) X.env = (do callWith pos (← eval fe X.env) [] (backTo pos (starEach (a :: es) X.env)) (backToKw pos (keywordEach [] X.env))) := by rfl)
    (he : starEach (a :: es) X.env = (false, eval a X.env) :: starEach es X.env := by rfl) (hpl : (backTo pos (starEach es X.env)).any (·.1) = false := by rfl) : JE k X E (.Call fe (a :: es) [] pos) (eMkV c n den mo ms) := by
  refine ⟨fun pins s σ H Q I h => ?_⟩
  obtain ⟨e, G, L, μ, sg, w, gd⟩ := h
  have h' : dE k X.K E mo σ H fun x H1 => x = .ref (k.cl c) ∧ dA k X.K E ms σ H1 fun vs H2 => StX.tMakeR (k.cl c) (spD k X.K n den) E (fun _ H Q => Q vs H) σ H2 Q := by
    refine ⟨e, G, L, μ, sg, w, Good.mono (Good.bind gd) fun d m1 G1 H1 L1 st1 w1 q1 x r => ?_⟩
    obtain ⟨rfl, q3⟩ := clsIs_good q1
    cases r
    exact ⟨rfl, e, G1, L1, m1, sg.mono st1.g st1.l, w1, Good.mono (Good.bind q3) fun ds m2 G2 H2 L2 st2 w2 q2 vs rv => make_good rv w2 q2⟩
  refine Call_ (thn (hf.run pins s σ H _ I h') fun u s1 ⟨y, H1, I1, ry, ey, q⟩ => ?_) ht
  subst ey
  obtain rfl : u = Value.ref (k.cl c) := ry
  refine PySem.W.callWith_K (h₀ := X.base) I1.ok.mod.kin Mc.kp (thn (ha.run pos pins s1 σ H1 _ I1 q) fun us s2 ⟨vs, H2, I2, r, q2⟩ => ⟨I2.kIn, ?_⟩) he hpl
  exact StX.run_makeR Mc F hr hx I2 r q2
end
end DL

namespace DL
open PySem L2 PyProof.Rows

/-! ### zip of a list and a tuple: the kinds told by a Bool (true: a list) -/
def KI : Bool → Heap → Addr → Addr → Nat → Prop
  | true, h, a, l, i => h.IsListIter a l i
  | false, h, a, l, i => h.IsTupleIter a l i
def KQ : Bool → Heap → Addr → Array Value → Prop
  | true, h, a, xs => h.IsList a xs
  | false, h, a, xs => h.IsTuple a xs
def kiN : Bool → String
  | true => "list_iterator"
  | false => "tuple_iterator"
theorem KI.ex {b : Bool} {h : Heap} {a l : Addr} {i : Nat} (x : KI b h a l i) : ∃ o, h.get? a = some o ∧ o.cls = .type (kiN b) ∧ o.data = .fields #[.ref l, .int i 0] := by cases b <;> exact x
theorem KI.of {b : Bool} {h : Heap} {a l : Addr} {i : Nat} (x : ∃ o, h.get? a = some o ∧ o.cls = .type (kiN b) ∧ o.data = .fields #[.ref l, .int i 0]) : KI b h a l i := by cases b <;> exact x
theorem KI.at {b : Bool} {h h' : Heap} {a l : Addr} {i : Nat} (x : KI b h a l i) (e : ∀ o, h.get? a = some o → h'.get? a = some o) : KI b h' a l i := let ⟨o, ho, r⟩ := x.ex; .of ⟨o, e _ ho, r⟩
theorem KI.but {b : Bool} {h h' : Heap} {a c l : Addr} {i : Nat} (x : KI b h a l i) (hs : Heap.ExtBut c h h') (n : a ≠ c) : KI b h' a l i := x.at fun o e => hs a o n e
theorem KI.lt {b : Bool} {h : Heap} {a l : Addr} {i : Nat} (x : KI b h a l i) : a < h.objs.size := let ⟨_, e, _⟩ := x.ex; Heap.lt_size e
theorem KQ.but {b : Bool} {h h' : Heap} {a c : Addr} {xs : Array Value} (x : KQ b h a xs) (hs : Heap.ExtBut c h h') (n : a ≠ c) : KQ b h' a xs := by
  cases b
  · exact Heap.IsTuple.extBut x hs n
  · exact Heap.IsList.extBut x hs n
theorem KQ.push {b : Bool} {h : Heap} {a : Addr} {xs : Array Value} (x : KQ b h a xs) (o : Obj) : KQ b (h.push o) a xs := by
  cases b
  · exact Heap.IsTuple.push x o
  · exact Heap.IsList.push x o
section
variable {prog : Program} {w : World} {A : Around} {E : Value → Shared → Prop} {s : Shared}
theorem nextK_item {b : Bool} {it l : Addr} {i : Nat} {items : Array Value} {x : Value} {Q : Value → Shared → Prop} (hit : KI b s.heap it l i) (hl : KQ b s.heap l items) (hx : items[i]? = some x)
    (hQ : ∀ h', KI b h' it l (i + 1) → Heap.SameBut it s.heap h' → Q x { s with heap := h' }) : wpAny (model prog w) A (Builtin.SmallTypes.nextOf (.ref it)) Q E s := by
  cases b
  · exact RZ.nextOf_tuple_item hit hl hx hQ
  · exact wpAny_nextOf_list_item hit hl hx hQ
theorem nextK_end {b : Bool} {it l : Addr} {i : Nat} {items : Array Value} {Q : Value → Shared → Prop} (hh : A.handled = none) (hit : KI b s.heap it l i) (hl : KQ b s.heap l items) (hx : items[i]? = none)
    (hE : ∀ h' e, Heap.ExtBut it s.heap h' → (∃ o, h'.get? e = some o ∧ o.cls = .type "StopIteration") → E (.ref e) { s with heap := h' }) : wpAny (model prog w) A (Builtin.SmallTypes.nextOf (.ref it)) Q E s := by
  cases b
  · exact RZ.nextOf_tuple_end hh hit hl hx hE
  · exact wpAny_nextOf_list_end hh hit hl hx hE
theorem iterK {b : Bool} {l : Addr} {items : Array Value} {Q : Value → Shared → Prop} (hl : KQ b s.heap l items) (hQ : Q (.ref s.heap.objs.size) { s with heap := s.heap.push { cls := .type (kiN b), data := .fields #[.ref l, .int 0 0] } }) :
    wpAny (model prog w) A (pyIter (.ref l)) Q E s := by
  cases b
  · exact wpAny_pyIter_tuple hl hQ
  · exact wpAny_pyIter_list hl hQ
variable {b1 b2 : Bool}
theorem zipK_item {z TI TO i1 i2 l1 l2 : Addr} {k1 k2 : Nat} {xs ys : Array Value} {x y a b : Value} {Q : Value → Shared → Prop} (D : ZipApart z TI TO i1 i2 l1 l2)
    (hz : IsZip s.heap z TI TO .none) (hTI : IsPair s.heap TI (.ref i1) (.ref i2)) (hTO : IsPair s.heap TO a b)
    (h1 : KI b1 s.heap i1 l1 k1) (h2 : KI b2 s.heap i2 l2 k2) (hl1 : KQ b1 s.heap l1 xs) (hl2 : KQ b2 s.heap l2 ys) (hx : xs[k1]? = some x) (hy : ys[k2]? = some y)
    (hQ : ∀ h', IsZip h' z TI TO (rawInt s.heap.objs.size) → IsPair h' TO x y → KI b1 h' i1 l1 (k1 + 1) → KI b2 h' i2 l2 (k2 + 1) → IsPair h' s.heap.objs.size x y → h'.objs.size = s.heap.objs.size + 1 →
      (∀ c o, c ≠ z → c ≠ TO → c ≠ i1 → c ≠ i2 → s.heap.get? c = some o → h'.get? c = some o) → Q (.ref s.heap.objs.size) { s with heap := h' }) :
    wpAny (model prog w) A (Builtin.«zip.__next__» ⟨[.ref z], []⟩) (fun fin s' => ∃ v, fin = .done (.ret v) ∧ Q v s') E s := by
  show wpAny _ _ (field (.ref z) 2 >>= _) _ _ _
  refine wpAny_bind (wpAny_field hz rfl (x := .bool false) rfl ?_)
  show wpAny _ _ (field (.ref z) 3 >>= _) _ _ _
  refine wpAny_bind (wpAny_field hz rfl (x := .ref TI) rfl (wpAny_bind (wpAny_seqItems hTI rfl ?_)))
  show wpAny _ _ (Builtin.SmallTypes.ownedTupleIsFree (.ref z) >>= _) _ _ _
  refine wpAny_bind ?_
  unfold Builtin.SmallTypes.ownedTupleIsFree
  refine wpAny_bind (wpAny_field hz rfl (x := .none) rfl (wpAny_pure ?_))
  simp only [if_true]
  refine wpAny_bind (wpAny_rule (wpAny_bind (wpAny_field hz rfl (x := .ref TO) rfl (wpAny_bind (wpAny_setField_rec hz (by simp) fun g1 z1 e1 => ?_)))))
  replace z1 : IsZip g1 z TI TO .ellipsis := z1
  refine wpAny_bind ?_
  simp only [List.zipIdx_cons, List.zipIdx_nil, List.forIn_cons, List.forIn_nil]
  refine wpAny_bind (wpAny_bind (wpAny_onRaise ?_))
  show wpAny _ _ (Builtin.SmallTypes.nextOf (.ref i1) >>= _) _ _ _
  refine wpAny_bind (nextK_item (h1.but e1.extBut D.i1z) (hl1.but e1.extBut D.l1z) hx fun g2 n2 e2 => wpAny_pure ?_)
  have t2 : IsPair g2 TO a b := e2.extBut _ _ D.TOi1 (e1.extBut _ _ D.TOz hTO)
  refine wpAny_bind (wpAny_seqItems t2 rfl (wpAny_bind (wpAny_updateSeq_pair t2 fun g3 t3 e3 => ?_)))
  replace t3 : IsPair g3 TO x b := t3
  refine wpAny_bind (wpAny_letGo (wpAny_pure (wpAny_bind (wpAny_bind (wpAny_onRaise ?_)))))
  show wpAny _ _ (Builtin.SmallTypes.nextOf (.ref i2) >>= _) _ _ _
  refine wpAny_bind (nextK_item (((h2.but e1.extBut D.i2z).but e2.extBut D.i12.symm).but e3.extBut D.TOi2.symm) (((hl2.but e1.extBut D.l2z).but e2.extBut D.l2i1).but e3.extBut D.l2TO) hy fun g4 n4 e4 => wpAny_pure ?_)
  have t4 : IsPair g4 TO x b := e4.extBut _ _ D.TOi2 t3
  refine wpAny_bind (wpAny_seqItems t4 rfl (wpAny_bind (wpAny_updateSeq_pair t4 fun g5 t5 e5 => ?_)))
  replace t5 : IsPair g5 TO x y := t5
  refine wpAny_bind (wpAny_letGo (wpAny_pure (wpAny_pure (wpAny_bind (wpAny_seqItems t5 rfl (wpAny_bind (wpAny_newTuple ?_)))))))
  have sz : g5.objs.size = s.heap.objs.size := by rw [e5.1, e4.1, e3.1, e2.1, e1.1]
  have z5 : IsZip g5 z TI TO .ellipsis := e5.extBut _ _ D.TOz.symm (e4.extBut _ _ D.i2z.symm (e3.extBut _ _ D.TOz.symm (e2.extBut _ _ D.i1z.symm z1)))
  have k5 : ∀ c o, c ≠ z → c ≠ TO → c ≠ i1 → c ≠ i2 → s.heap.get? c = some o → g5.get? c = some o := fun c o c1 c2 c3 c4 e => e5.extBut _ _ c2 (e4.extBut _ _ c4 (e3.extBut _ _ c2 (e2.extBut _ _ c3 (e1.extBut _ _ c1 e))))
  have m1 : KI b1 g5 i1 l1 (k1 + 1) := ((n2.but e3.extBut D.TOi1.symm).but e4.extBut D.i12).but e5.extBut D.TOi1.symm
  have m2 : KI b2 g5 i2 l2 (k2 + 1) := n4.but e5.extBut D.TOi2.symm
  have zl : z < g5.objs.size := Heap.lt_size z5
  show wpAny _ _ (Builtin.SmallTypes.ownedTupleHandOut (.ref z) (.ref g5.objs.size) >>= _) _ _ _
  refine wpAny_bind ?_
  unfold Builtin.SmallTypes.ownedTupleHandOut
  have z6 : IsZip (g5.push { cls := .type "tuple", data := .seq #[x, y] }) z TI TO .ellipsis := Heap.get?_push_of_some _ z5
  refine wpAny_bind (wpAny_setField_rec z6 (by simp) fun g7 z7 e7 => ?_)
  replace z7 : IsZip g7 z TI TO (rawInt g5.objs.size) := z7
  refine wpAny_setField_rec z7 (by simp) fun g8 z8 e8 => ?_
  replace z8 : IsZip g8 z TI TO (rawInt g5.objs.size) := z8
  have up : ∀ c o, c ≠ z → g5.get? c = some o → g8.get? c = some o := fun c o c1 e => e8.extBut _ _ c1 (e7.extBut _ _ c1 (Heap.get?_push_of_some _ e))
  have t8 : IsPair g8 g5.objs.size x y := e8.extBut _ _ (Nat.ne_of_gt zl) (e7.extBut _ _ (Nat.ne_of_gt zl) (Heap.get?_push_size _ rfl))
  have s8 : g8.objs.size = g5.objs.size + 1 := by rw [e8.1, e7.1, Heap.size_push]
  rw [sz] at z8 t8 s8
  refine wpAny_pure ⟨_, rfl, ?_⟩
  show Q (.ref g5.objs.size) _
  rw [sz]
  exact hQ g8 z8 (up _ _ D.TOz t5) (m1.at fun o e => up _ o D.i1z e) (m2.at fun o e => up _ o D.i2z e) t8 s8 fun c o c1 c2 c3 c4 e => up c o c1 (k5 c o c1 c2 c3 c4 e)
theorem zipK_end {z TI TO i1 i2 l1 l2 : Addr} {k1 k2 : Nat} {xs ys : Array Value} {a b : Value} {Q : Fin → Shared → Prop} (hh : A.handled = none) (D : ZipApart z TI TO i1 i2 l1 l2)
    (hz : IsZip s.heap z TI TO .none) (hTI : IsPair s.heap TI (.ref i1) (.ref i2)) (hTO : IsPair s.heap TO a b)
    (h1 : KI b1 s.heap i1 l1 k1) (h2 : KI b2 s.heap i2 l2 k2) (hl1 : KQ b1 s.heap l1 xs) (hl2 : KQ b2 s.heap l2 ys) (hend : xs[k1]? = none ∨ ys[k2]? = none)
    (hE : ∀ h' e, (∀ c o, c ≠ z → c ≠ TO → c ≠ i1 → c ≠ i2 → s.heap.get? c = some o → h'.get? c = some o) → (∃ o, h'.get? e = some o ∧ o.cls = .type "StopIteration") → E (.ref e) { s with heap := h' }) :
    wpAny (model prog w) A (Builtin.«zip.__next__» ⟨[.ref z], []⟩) Q E s := by
  show wpAny _ _ (field (.ref z) 2 >>= _) _ _ _
  refine wpAny_bind (wpAny_field hz rfl (x := .bool false) rfl ?_)
  show wpAny _ _ (field (.ref z) 3 >>= _) _ _ _
  refine wpAny_bind (wpAny_field hz rfl (x := .ref TI) rfl (wpAny_bind (wpAny_seqItems hTI rfl ?_)))
  show wpAny _ _ (Builtin.SmallTypes.ownedTupleIsFree (.ref z) >>= _) _ _ _
  refine wpAny_bind ?_
  unfold Builtin.SmallTypes.ownedTupleIsFree
  refine wpAny_bind (wpAny_field hz rfl (x := .none) rfl (wpAny_pure ?_))
  simp only [if_true]
  refine wpAny_bind (wpAny_rule (wpAny_bind (wpAny_field hz rfl (x := .ref TO) rfl (wpAny_bind (wpAny_setField_rec hz (by simp) fun g1 z1 e1 => ?_)))))
  replace z1 : IsZip g1 z TI TO .ellipsis := z1
  refine wpAny_bind ?_
  simp only [List.zipIdx_cons, List.zipIdx_nil, List.forIn_cons, List.forIn_nil]
  refine wpAny_bind (wpAny_bind (wpAny_onRaise ?_))
  show wpAny _ _ (Builtin.SmallTypes.nextOf (.ref i1) >>= _) _ _ _
  have ne : ∀ {h : Heap} {e : Addr} {o : Obj}, IsZip h z TI TO .ellipsis → h.get? e = some o → o.cls = .type "StopIteration" → e ≠ z := fun {h e o} hz' ho hc q => by
    subst q
    rw [hz'] at ho
    cases ho
    simp at hc
  cases hx : xs[k1]? with
  | none =>
    refine wpAny_bind (nextK_end hh (h1.but e1.extBut D.i1z) (hl1.but e1.extBut D.l1z) hx fun g2 e e2 he => ?_)
    obtain ⟨oe, hoe, hce⟩ := he
    have z2 : IsZip g2 z TI TO .ellipsis := e2 _ _ D.i1z.symm z1
    exact wpAny_setField_rec z2 (by simp) fun g3 _ e3 => hE g3 e (fun c o c1 _ c3 _ x => e3.extBut _ _ c1 (e2 _ _ c3 (e1.extBut _ _ c1 x))) ⟨oe, e3.extBut _ _ (ne z2 hoe hce) hoe, hce⟩
  | some x =>
    have hy : ys[k2]? = none := by
      rcases hend with h | h
      · rw [hx] at h; cases h
      · exact h
    refine wpAny_bind (nextK_item (h1.but e1.extBut D.i1z) (hl1.but e1.extBut D.l1z) hx fun g2 n2 e2 => wpAny_pure ?_)
    have t2 : IsPair g2 TO a b := e2.extBut _ _ D.TOi1 (e1.extBut _ _ D.TOz hTO)
    refine wpAny_bind (wpAny_seqItems t2 rfl (wpAny_bind (wpAny_updateSeq_pair t2 fun g3 t3 e3 => ?_)))
    refine wpAny_bind (wpAny_letGo (wpAny_pure (wpAny_bind (wpAny_bind (wpAny_onRaise ?_)))))
    show wpAny _ _ (Builtin.SmallTypes.nextOf (.ref i2) >>= _) _ _ _
    refine wpAny_bind (nextK_end hh (((h2.but e1.extBut D.i2z).but e2.extBut D.i12.symm).but e3.extBut D.TOi2.symm) (((hl2.but e1.extBut D.l2z).but e2.extBut D.l2i1).but e3.extBut D.l2TO) hy fun g4 e e4 he => ?_)
    obtain ⟨oe, hoe, hce⟩ := he
    have z4 : IsZip g4 z TI TO .ellipsis := e4 _ _ D.i2z.symm (e3.extBut _ _ D.TOz.symm (e2.extBut _ _ D.i1z.symm z1))
    exact wpAny_setField_rec z4 (by simp) fun g5 _ e5 => hE g5 e (fun c o c1 c2 c3 c4 x => e5.extBut _ _ c1 (e4 _ _ c4 (e3.extBut _ _ c2 (e2.extBut _ _ c3 (e1.extBut _ _ c1 x))))) ⟨oe, e5.extBut _ _ (ne z4 hoe hce) hoe, hce⟩
theorem pyNextK_item {z TI TO i1 i2 l1 l2 : Addr} {k1 k2 : Nat} {xs ys : Array Value} {x y a b : Value} {Q : Option Value → Shared → Prop} (D : ZipApart z TI TO i1 i2 l1 l2)
    (hz : IsZip s.heap z TI TO .none) (hTI : IsPair s.heap TI (.ref i1) (.ref i2)) (hTO : IsPair s.heap TO a b)
    (h1 : KI b1 s.heap i1 l1 k1) (h2 : KI b2 s.heap i2 l2 k2) (hl1 : KQ b1 s.heap l1 xs) (hl2 : KQ b2 s.heap l2 ys) (hx : xs[k1]? = some x) (hy : ys[k2]? = some y)
    (hQ : ∀ h', IsZip h' z TI TO (rawInt s.heap.objs.size) → IsPair h' TO x y → KI b1 h' i1 l1 (k1 + 1) → KI b2 h' i2 l2 (k2 + 1) → IsPair h' s.heap.objs.size x y → h'.objs.size = s.heap.objs.size + 1 →
      (∀ c o, c ≠ z → c ≠ TO → c ≠ i1 → c ≠ i2 → s.heap.get? c = some o → h'.get? c = some o) → Q (some (.ref s.heap.objs.size)) { s with heap := h' }) : wpAny (model prog w) A (pyNext (.ref z)) Q E s := by
  have hT : s.TypeIs (.ref z) "zip" := ⟨_, hz, rfl⟩
  unfold pyNext
  exact wpAny_bind (wpAny_attempt (wpAny_callSpecial?_slot (name := Str.ofString "__next__") hT F.slot_zip_next (wpAny_call_entry F.slot_zip_next hT F.entry_zip_next
    (zipK_item D hz hTI hTO h1 h2 hl1 hl2 hx hy fun h' a1 a2 a3 a4 a5 a6 a7 => wpAny_pure (hQ h' a1 a2 a3 a4 a5 a6 a7)) (F.args_zip_next_1 _))))
theorem pyNextK_end {z TI TO i1 i2 l1 l2 : Addr} {k1 k2 : Nat} {xs ys : Array Value} {a b : Value} {Q : Option Value → Shared → Prop} (hh : A.handled = none) (D : ZipApart z TI TO i1 i2 l1 l2)
    (hz : IsZip s.heap z TI TO .none) (hTI : IsPair s.heap TI (.ref i1) (.ref i2)) (hTO : IsPair s.heap TO a b)
    (h1 : KI b1 s.heap i1 l1 k1) (h2 : KI b2 s.heap i2 l2 k2) (hl1 : KQ b1 s.heap l1 xs) (hl2 : KQ b2 s.heap l2 ys) (hend : xs[k1]? = none ∨ ys[k2]? = none)
    (hQ : ∀ h', (∀ c o, c ≠ z → c ≠ TO → c ≠ i1 → c ≠ i2 → s.heap.get? c = some o → h'.get? c = some o) → Q none { s with heap := h' }) : wpAny (model prog w) A (pyNext (.ref z)) Q E s := by
  have hT : s.TypeIs (.ref z) "zip" := ⟨_, hz, rfl⟩
  unfold pyNext
  refine wpAny_bind (wpAny_attempt (wpAny_callSpecial?_slot (name := Str.ofString "__next__") hT F.slot_zip_next (wpAny_call_entry F.slot_zip_next hT F.entry_zip_next
    (zipK_end hh D hz hTI hTO h1 h2 hl1 hl2 hend fun h' e hk he => ?_) (F.args_zip_next_1 _))))
  obtain ⟨o, ho, hc⟩ := he
  exact wpAny_bind (wpAny_isInstance (T := "StopIteration") (b := true) ⟨o, ho, hc⟩ isSubtype_stop (wpAny_pure (hQ _ hk)))
end
abbrev zkH1 (b1 : Bool) (h : Heap) (l1 : Addr) : Heap := h.push { cls := .type (kiN b1), data := .fields #[.ref l1, .int 0 0] }
abbrev zkH2 (b1 b2 : Bool) (h : Heap) (l1 l2 : Addr) : Heap := (zkH1 b1 h l1).push { cls := .type (kiN b2), data := .fields #[.ref l2, .int 0 0] }
abbrev zkH3 (b1 b2 : Bool) (h : Heap) (l1 l2 : Addr) : Heap := (zkH2 b1 b2 h l1 l2).push { cls := .type "tuple", data := .seq #[.ref h.objs.size, .ref (zkH1 b1 h l1).objs.size] }
abbrev zkH4 (b1 b2 : Bool) (h : Heap) (l1 l2 : Addr) : Heap := (zkH3 b1 b2 h l1 l2).push { cls := .type "tuple", data := .seq #[.none, .none] }
abbrev zkH5 (b1 b2 : Bool) (h : Heap) (l1 l2 : Addr) : Heap := (zkH4 b1 b2 h l1 l2).push { cls := .type "zip", data := .fields #[.none, .bool false, .bool false, .ref (zkH2 b1 b2 h l1 l2).objs.size, .ref (zkH3 b1 b2 h l1 l2).objs.size] }
theorem meets_zipK (b1 b2 : Bool) (l1 l2 : Addr) (xs ys : Array Value) :
    Meets (Builtin.«zip.__new__» ⟨[.type "zip", .ref l1, .ref l2], []⟩) (fun _ R s => KQ b1 s.heap l1 xs ∧ KQ b2 s.heap l2 ys ∧ R (.ok (.ret (.ref (zkH4 b1 b2 s.heap l1 l2).objs.size))) { s with heap := zkH5 b1 b2 s.heap l1 l2 }) :=
  .of_wp fun prog w A R s h => by
    obtain ⟨hp, g, d, tk, os⟩ := s
    obtain ⟨hl1, hl2, h⟩ := h
    have hsub := sub_zip
    have hL1 : KQ b1 (Shared.heap ⟨hp, g, d, tk, os⟩) l1 xs := hl1
    have hL2 : KQ b2 (Shared.heap ⟨hp.push { cls := .type (kiN b1), data := .fields #[.ref l1, .int 0 0] }, g, d, tk, os⟩) l2 ys := KQ.push hl2 _
    wp_walk using iterK hL1, iterK hL2
    exact ⟨_, rfl, h⟩
theorem call_zipK {prog : Program} {w : World} {A : Around} {E : Value → Shared → Prop} {s : Shared} {b1 b2 : Bool} {l1 l2 : Addr} {xs ys : Array Value} {Q : Value → Shared → Prop} (hl1 : KQ b1 s.heap l1 xs) (hl2 : KQ b2 s.heap l2 ys)
    (h : ∀ h', IsZip h' (s.heap.objs.size + 4) (s.heap.objs.size + 2) (s.heap.objs.size + 3) .none → IsPair h' (s.heap.objs.size + 2) (.ref s.heap.objs.size) (.ref (s.heap.objs.size + 1)) →
      IsPair h' (s.heap.objs.size + 3) .none .none → KI b1 h' s.heap.objs.size l1 0 → KI b2 h' (s.heap.objs.size + 1) l2 0 → h'.objs.size = s.heap.objs.size + 5 →
      (∀ c o, s.heap.get? c = some o → h'.get? c = some o) → Q (.ref (s.heap.objs.size + 4)) { s with heap := h' }) : wpAny (model prog w) A (call (.type "zip") [.ref l1, .ref l2]) Q E s := by
  refine callType_new F.called_zip (by decide) (F.typeCall_zip_2 _ _) (F.newCall_zip_2 _ _) (fun obj => F.args_object_init_3 obj _ _) F.entry_zip_new (meets_zipK b1 b2 l1 l2 xs ys) ⟨hl1, hl2, ?_⟩
  have y1 : (zkH1 b1 s.heap l1).objs.size = s.heap.objs.size + 1 := Heap.size_push ..
  have y2 : (zkH2 b1 b2 s.heap l1 l2).objs.size = s.heap.objs.size + 2 := by rw [Heap.size_push, y1]
  have y3 : (zkH3 b1 b2 s.heap l1 l2).objs.size = s.heap.objs.size + 3 := by rw [Heap.size_push, y2]
  have y4 : (zkH4 b1 b2 s.heap l1 l2).objs.size = s.heap.objs.size + 4 := by rw [Heap.size_push, y3]
  have y5 : (zkH5 b1 b2 s.heap l1 l2).objs.size = s.heap.objs.size + 5 := by rw [Heap.size_push, y4]
  have p1 : ∀ {h : Heap} {o o' : Obj} {a : Addr}, h.get? a = some o → (h.push o').get? a = some o := fun e => Heap.get?_push_of_some _ e
  have g5 : (zkH5 b1 b2 s.heap l1 l2).get? (zkH4 b1 b2 s.heap l1 l2).objs.size = some _ := Heap.get?_push_size _ rfl
  have g4 : (zkH5 b1 b2 s.heap l1 l2).get? (zkH3 b1 b2 s.heap l1 l2).objs.size = some _ := p1 (Heap.get?_push_size _ rfl)
  have g3 : (zkH5 b1 b2 s.heap l1 l2).get? (zkH2 b1 b2 s.heap l1 l2).objs.size = some _ := p1 (p1 (Heap.get?_push_size _ rfl))
  have g2 : (zkH5 b1 b2 s.heap l1 l2).get? (zkH1 b1 s.heap l1).objs.size = some _ := p1 (p1 (p1 (Heap.get?_push_size _ rfl)))
  have g1 : (zkH5 b1 b2 s.heap l1 l2).get? s.heap.objs.size = some _ := p1 (p1 (p1 (p1 (Heap.get?_push_size _ rfl))))
  show _ ∧ _
  rw [y2, y3, y4] at g5
  rw [y1, y2] at g3
  rw [y3] at g4
  rw [y1] at g2
  rw [y4]
  exact ⟨⟨_, g5, rfl⟩, h _ g5 g3 g4 (.of ⟨_, g1, rfl, rfl⟩) (.of ⟨_, g2, rfl, rfl⟩) y5 fun c o x => p1 (p1 (p1 (p1 (p1 x))))⟩
end DL

namespace DL
open PySem L2 PyProof.Rows
def SqK (b : Bool) (K : PySem.W.Frag) (H : Hp) (a : Addr) (xs : List V) : Prop := if b = true then SqL K H a xs else SqT K H a xs
section
variable {X : Cx} {pins : List (Addr × Obj)} {σ : L2.St} {H : Hp} {s : Shared} {a : Addr} {xs ys : List V} {b : Bool}
theorem sqK_val (I : L2.Inv X pins σ H s) (h : SqK b X.K H a xs) : ∃ its : List Value, Vals xs its ∧ KQ b s.heap a its.toArray ∧ a < s.heap.objs.size := by
  cases b
  · obtain ⟨its, r, p, _⟩ := I.tuple h
    obtain ⟨o, ho, _⟩ := id p
    exact ⟨its, r, p, Heap.lt_size ho⟩
  · obtain ⟨its, r, p, _⟩ := I.list h
    exact ⟨its, r, p.isList, p.lt⟩
theorem sqK_inj (I : L2.Inv X pins σ H s) (h : SqK b X.K H a xs) (h' : SqK b X.K H a ys) : xs = ys := by
  cases b
  · exact I.tuple_inj h h'
  · exact I.list_inj h h'
end
def ItzK (b1 b2 : Bool) (K : PySem.W.Frag) (a b : Addr) : It :=
  ⟨fun i H => ∃ (xs ys : List V) (x y : V), SqK b1 K H a xs ∧ SqK b2 K H b ys ∧ xs[i]? = some x ∧ ys[i]? = some y,
    fun i H v H' => ∃ T x y, v = .ref T ∧ H T = none ∧ H' = upd H T (.tup [x, y]) ∧ (∀ xs, SqK b1 K H a xs → xs[i]? = some x) ∧ ∀ ys, SqK b2 K H b ys → ys[i]? = some y,
    fun i H => ∃ xs ys : List V, SqK b1 K H a xs ∧ SqK b2 K H b ys ∧ (xs.length ≤ i ∨ ys.length ≤ i)⟩
theorem turn_zipK {P : Program} {w : World} {K : PySem.W.Frag} {elts : List Expr} {kk : Nat} {tpos : Pos} {b1 b2 : Bool} {a b z TI TO i1 i2 : Addr} (D : ZipApart z TI TO i1 i2 a b) :
    Turn P w K (.Tuple elts kk tpos) (ItzK b1 b2 K a b) [z, TI, TO, i1, i2] z (fun i h => IsZip h z TI TO .none ∧ IsPair h TI (.ref i1) (.ref i2) ∧ (∃ x y, IsPair h TO x y) ∧ KI b1 h i1 a i ∧ KI b2 h i2 b i) where
  mem := by simp
  obj := fun i h st c hc => by
    obtain ⟨hz, hTI, ⟨x, y, hTO⟩, h1, h2⟩ := st
    obtain ⟨o1, e1, _, d1⟩ := h1.ex
    obtain ⟨o2, e2, _, d2⟩ := h2.ex
    have e' : c = z ∨ c = TI ∨ c = TO ∨ c = i1 ∨ c = i2 := by simpa using hc
    rcases e' with rfl | rfl | rfl | rfl | rfl
    · exact ⟨_, hz, fun v q => nomatch q⟩
    · exact ⟨_, hTI, fun v q => nomatch q⟩
    · exact ⟨_, hTO, fun v q => nomatch q⟩
    · exact ⟨o1, e1, fun v q => by rw [d1] at q; cases q⟩
    · exact ⟨o2, e2, fun v q => by rw [d2] at q; cases q⟩
  keep := fun i h h' st k => by
    obtain ⟨hz, hTI, ⟨x, y, hTO⟩, h1, h2⟩ := st
    exact ⟨k z (by simp) _ hz, k TI (by simp) _ hTI, ⟨x, y, k TO (by simp) _ hTO⟩, h1.at fun o q => k i1 (by simp) o q, h2.at fun o q => k i2 (by simp) o q⟩
  item := by
    intro X hP hw hK hc i pins s σ H E I hf st hg
    subst hP hw hK
    obtain ⟨hz, hTI, ⟨x0, y0, hTO⟩, h1, h2⟩ := st
    obtain ⟨xs, ys, x, y, hqx, hqy, hx, hy⟩ := hg
    obtain ⟨its, rv, p, _⟩ := sqK_val I hqx
    obtain ⟨its2, rv2, p2, _⟩ := sqK_val I hqy
    obtain ⟨u, hu, ru⟩ := rv.get hx
    obtain ⟨u2, hu2, ru2⟩ := rv2.get hy
    have hzl : z < s.heap.objs.size := Heap.lt_size hz
    have q1 := h1.lt
    have q2 := h2.lt
    refine pyNextK_item D hz hTI hTO h1 h2 p p2 (x := u) (y := u2) (by simpa using hu) (by simpa using hu2) fun h' z' TO' h1' h2' hT hsz hk => ?_
    refine ⟨_, rfl, wpAny_letOwnedTupleGo_zip (s := { s with heap := h' }) z' fun h'' z'' sb => ?_⟩
    have hT2 : h''.get? s.heap.objs.size = some { cls := .type "tuple", data := .seq #[u, u2] } := (sb.2 _ (Nat.ne_of_gt hzl)).trans hT
    have new : ObjOk X.prog X.w (upd H s.heap.objs.size (.tup [x, y])) h'' s.heap.objs.size (.tup [x, y]) := ⟨by show 2 ≤ sizeLine; decide, [u, u2], .cons ru (.cons ru2 .nil), ⟨_, hT2, rfl, _, rfl⟩⟩
    have I1 : L2.Inv X pins σ (upd H s.heap.objs.size (.tup [x, y])) { s with heap := h'' } :=
      I.turnedNew (t' := s.toks) (ch := [z, TI, TO, i1, i2]) (fun c o hb q => (sb.2 c (fun q' => hb (by simp [q']))).trans (hk c o (fun q' => hb (by simp [q'])) (fun q' => hb (by simp [q'])) (fun q' => hb (by simp [q'])) (fun q' => hb (by simp [q'])) q)) hf (Nat.le_refl _) new
    refine ⟨.ref s.heap.objs.size, _, I1, rfl, ⟨_, x, y, rfl, I.hok.fresh (Nat.le_refl _), rfl, fun l hl => by rw [sqK_inj I hl hqx]; exact hx, fun l hl => by rw [sqK_inj I hl hqy]; exact hy⟩, ⟨z'', ?_, ⟨u, u2, ?_⟩, ?_, ?_⟩, fun c hcm => ?_⟩
    · exact (sb.2 _ D.TIz).trans (hk _ _ D.TIz D.TITO D.TIi1 D.TIi2 hTI)
    · exact (sb.2 _ D.TOz).trans TO'
    · exact h1'.at fun o q => (sb.2 _ D.i1z).trans q
    · exact h2'.at fun o q => (sb.2 _ D.i2z).trans q
    · have hlt : c < s.heap.objs.size := by
        have e' : c = z ∨ c = TI ∨ c = TO ∨ c = i1 ∨ c = i2 := by simpa using hcm
        rcases e' with rfl | rfl | rfl | rfl | rfl
        · exact hzl
        · exact Heap.lt_size hTI
        · exact Heap.lt_size hTO
        · exact q1
        · exact q2
      rw [upd_ne (Nat.ne_of_lt hlt)]
      exact (hf c hcm).1
  done := by
    intro X hP hw hK hc i pins s σ H E I hf st hg
    subst hP hw hK
    obtain ⟨hz, hTI, ⟨x0, y0, hTO⟩, h1, h2⟩ := st
    obtain ⟨xs, ys, hqx, hqy, hend⟩ := hg
    obtain ⟨its, rv, p, _⟩ := sqK_val I hqx
    obtain ⟨its2, rv2, p2, _⟩ := sqK_val I hqy
    have l1 := rv.length
    have l2 := rv2.length
    have he : its.toArray[i]? = none ∨ its2.toArray[i]? = none := by
      rcases hend with q | q
      · exact .inl (by simp; omega)
      · exact .inr (by simp; omega)
    exact pyNextK_end (I.ok.hd hc) D hz hTI hTO h1 h2 p p2 he fun h' hk => ⟨rfl, I.turnedL (t' := s.toks) (ch := [z, TI, TO, i1, i2]) (fun c o hb q =>
      hk c o (fun q' => hb (by simp [q'])) (fun q' => hb (by simp [q'])) (fun q' => hb (by simp [q'])) (fun q' => hb (by simp [q'])) q) hf⟩
  self := fun A i s Q E st h => wpAny_pyIter_zip st.1 h
def iZipT (K : PySem.W.Frag) (ta : TA) : TI := fun σ H R => ta σ H fun vs H1 => ∃ b1 b2 a b xs ys, vs = [.ref a, .ref b] ∧ SqK b1 K H1 a xs ∧ SqK b2 K H1 b ys ∧ R (ItzK b1 b2 K a b) H1
theorem pi_zipK {X : Cx} {e e2 : Expr} {ta : TA} {p pos tpos : Pos} {elts : List Expr} {kk : Nat} (hg : Gl X "zip") (hm : X.mg "zip" = none) (ha : PA X [e, e2] ta)
    (hs : starEach [e, e2] X.env = (false, eval e X.env) :: starEach [e2] X.env := by rfl) (hpl : (backTo pos (starEach [e2] X.env)).any (·.1) = false := by rfl) :
    PI X (.Tuple elts kk tpos) (.Call (.Name "zip" p) [e, e2] [] pos) (iZipT X.K ta) := by
  refine ⟨fun pins s σ H R I h => ?_⟩
  refine Call_ (ld_blt I hg hm PyProof.Rows.boot_zip (PyProof.Rows.callWith_type1 (thn (ha.run pos pins s σ H _ I h) fun us s1 ⟨vs, H1, I1, r1, q1⟩ => ?_) hs hpl))
  obtain ⟨b1, b2, a, b, xs, ys, ex, hqx, hqy, q⟩ := q1
  subst ex
  cases r1 with
  | cons r rr =>
    cases rr with
    | cons r' rr =>
      cases rr
      cases r
      cases r'
      have fresh5 : ∀ c, c ∈ [s1.heap.objs.size + 4, s1.heap.objs.size + 2, s1.heap.objs.size + 3, s1.heap.objs.size, s1.heap.objs.size + 1] → FpOk X pins H1 c := fun c hcm => by
        have hle : s1.heap.objs.size ≤ c := by
          simp only [List.mem_cons, List.not_mem_nil, or_false] at hcm
          omega
        exact I1.fpOk hle (I1.hok.fresh hle)
      obtain ⟨its, rv, p1, lt1⟩ := sqK_val I1 hqx
      obtain ⟨its2, rv2, p2, lt2⟩ := sqK_val I1 hqy
      refine call_zipK p1 p2 fun h' hz hTI hTO h1 h2 hsz hk => wpAny_pyIter_zip hz ?_
      have I2 : L2.Inv X pins σ H1 { s1 with heap := h' } := I1.kept (t' := s1.toks) hk
      exact ⟨s1.heap.objs.size + 4, [s1.heap.objs.size + 4, s1.heap.objs.size + 2, s1.heap.objs.size + 3, s1.heap.objs.size, s1.heap.objs.size + 1], _, _, H1, rfl, I2, turn_zipK (PySem.W.ktu_apart s1.heap.objs.size a b lt1 lt2), ⟨hz, hTI, ⟨_, _, hTO⟩, h1, h2⟩, fresh5, q⟩
def iZip (a : DEnv → M (List D)) : DEnv → M Src := fun e => do
  let xs ← a e
  match xs with
    | [x, y] => (do let s ← srcD x; let t ← srcD y; pure ⟨zipT s.items t.items, s.gd ++ t.gd⟩)
    | _ => M.bad
section
variable {k : Kx} {X : Cx} {E : XK} {pos : Pos}
theorem stand_K {G : Hp} {L : Lam} {s : Src} {a : Addr} {b : Bool} (h : Stand k X.K G L s a b) : ∀ (G2 H2 : Hp) (L2 : Lam) (μ : Store), Same G G2 → L <+: L2 → Wd k X.K G2 H2 L2 μ → s.okB μ = true → ∃ vs, SqK b X.K H2 a vs ∧ RpA k X.K G2 L2 vs s.items := by
  cases b <;> exact h
theorem itzK_ok {G : Hp} {L : Lam} {s t : Src} {a b : Addr} {b1 b2 : Bool} (h1 : Stand k X.K G L s a b1) (h2 : Stand k X.K G L t b b2) : ItOk k X.K G L (ItzK b1 b2 X.K a b) ⟨zipT s.items t.items, s.gd ++ t.gd⟩ := by
  intro G2 H2 L2 μ ge le w ok i
  obtain ⟨o1, o2⟩ := okB_app ok
  obtain ⟨vs, hs, ra⟩ := stand_K h1 G2 H2 L2 μ ge le w o1
  obtain ⟨us, ht, rb⟩ := stand_K h2 G2 H2 L2 μ ge le w o2
  refine ⟨fun d hd => ?_, fun hl => ?_⟩
  · obtain ⟨dx, dy, e1, e2, rfl⟩ := zipT_get hd
    obtain ⟨v, hv, rv⟩ := ra.get e1
    obtain ⟨u, hu, ru⟩ := rb.get e2
    refine ⟨⟨vs, us, v, u, hs, ht, hv, hu⟩, fun x H3 y => ?_⟩
    obtain ⟨T, x', y', rfl, hT, rfl, q1, q2⟩ := y
    have z1 := q1 vs hs
    have z2 := q2 us ht
    rw [hv] at z1
    rw [hu] at z2
    cases z1
    cases z2
    exact two_new w hT rv ru
  · refine ⟨vs, us, hs, ht, ?_⟩
    rw [zipT_len] at hl
    rw [ra.len, rb.len]
    omega
theorem ji_zipK {a b : Expr} {ms : DEnv → M (List D)} {p tpos : Pos} {elts : List Expr} {kk : Nat} (hg : Gl X "zip") (hm : X.mg "zip" = none) (ha : JA k X E [a, b] ms)
    (hs : starEach [a, b] X.env = (false, eval a X.env) :: starEach [b] X.env := by rfl) (hpl : (backTo pos (starEach [b] X.env)).any (·.1) = false := by rfl) :
    JI k X E (.Tuple elts kk tpos) (.Call (.Name "zip" p) [a, b] [] pos) (iZip ms) := by
  refine PI.imp (pi_zipK hg hm ha hs hpl) fun s H R h => ?_
  obtain ⟨e, G, L, μ, sg, w, gd⟩ := h
  refine ⟨e, G, L, μ, sg, w, Good.mono (Good.bind gd) fun ds m1 G1 H1 L1 st1 w1 q1 vs r => ?_⟩
  match ds, r, q1 with
  | [], _, q1 => exact False.elim q1
  | [_], _, q1 => exact False.elim q1
  | [x, y], r, q1 =>
    obtain ⟨v, u, rfl, r1, r2⟩ := two_of (H := H1) r
    obtain ⟨a, s, rfl, ⟨va, hva⟩, sa, q1⟩ := src_atK (f := fun s => do let t ← srcD y; (pure ⟨zipT s.items t.items, s.gd ++ t.gd⟩ : M Src)) r1 w1 q1
    obtain ⟨b, t, rfl, ⟨vb, hvb⟩, sb, q1⟩ := src_atK (f := fun t => (pure ⟨zipT s.items t.items, s.gd ++ t.gd⟩ : M Src)) r2 w1 q1
    exact ⟨notTup x, notTup y, a, b, va, vb, rfl, hva, hvb, Good.ret q1 w1 _ (itzK_ok sa sb)⟩
  | _ :: _ :: _ :: _, _, q1 => exact False.elim q1
end
end DL

namespace DL
open PySem L2 PyProof.Rows

/-! ### what the printed texts use -/
/-- the module's name x stands for d -/
def GlD (k : Kx) (K : PySem.W.Frag) (mg : Str → Option Value) (x : Str) (d : D) : Prop := ∃ u v, mg x = some u ∧ RelV v u ∧ ∀ G L, Rp k K G L v d
theorem j_globD {k : Kx} {X : Cx} {E : XK} {x : Str} {d : D} {pos : Pos} (g : GlD k X.K X.mg x d) (hg : Gl X x) (hd : (x == ("__debug__" : Str)) = false := by decide) : JE k X E (.Name x pos) (eC d) := by
  obtain ⟨u, v, h1, h2, h3⟩ := g
  exact j_glob hg h1 h2 h3 hd
section
variable {k : Kx} {P : Program} {w : World} {K : PySem.W.Frag} {mg : Str → Option Value} {base : Heap}
theorem gl_int {x : Str} {i : Int} {t : Tok} (h : mg x = some (.int i t)) : GlD k K mg x (.int i) := ⟨_, .int i, h, ⟨t, rfl⟩, fun _ _ => .int i⟩
theorem gl_str {x y : Str} {t : Tok} (h : mg x = some (.str y t)) : GlD k K mg x (.str y) := ⟨_, .str y, h, ⟨t, rfl⟩, fun _ _ => .str y⟩
theorem rpa_ints {G : Hp} {L : Lam} : ∀ ns : List Int, RpA k K G L (ns.map V.int) (ns.map D.int)
  | [] => .nil
  | n :: r => .cons (.int n) (rpa_ints r)
def isIntV : Value → Option Int
  | .int i _ => some i
  | _ => none
theorem vals_ints : ∀ {us : List Value} {ns : List Int}, us.map isIntV = ns.map some → Vals (ns.map V.int) us
  | [], [], _ => .nil
  | [], _ :: _, h => by cases h
  | _ :: _, [], h => by cases h
  | u :: us, n :: ns, h => by
    simp only [List.map_cons, List.cons.injEq] at h
    refine .cons ?_ (vals_ints h.2)
    cases u with
    | int i t => exact ⟨t, by cases h.1; rfl⟩
    | _ => exact absurd h.1 (by simp [isIntV])
theorem gl_ints {x : Str} {a : Addr} {od : Option Addr} {its : Array Value} {n : Nat} {sl : Array (Option Value)} {ns : List Int} (h : mg x = some (.ref a)) (hk : K.lookup a = some ⟨.type "tuple", od, .seq its n, sl⟩) (hs : its.size ≤ sizeLine) (hv : its.toList.map isIntV = ns.map some) : GlD k K mg x (.tup (ns.map .int)) :=
  ⟨_, .ref a, h, rfl, fun G L => .tup (.inr ⟨_, its, n, hk, rfl, rfl, hs, vals_ints hv⟩) (rpa_ints ns)⟩
/-- a def of the text -/
structure FA (K : PySem.W.Frag) (x qual : Str) (st : Stmt) (ps : List Str) (f : Addr) : Prop where
  ex : ∃ fd, Fun K x qual st f fd ∧ Binds K fd ps []
theorem FA.kp {x qual : Str} {st : Stmt} {ps : List Str} {f : Addr} (F : FA K x qual st ps f) : PySem.W.keepIn K (.ref f) = true := let ⟨_, h, _⟩ := F.ex; h.kp
theorem fnr_ok {x qual : Str} {st : Stmt} {f : Addr} {N ps : List Str} {lvl : Nat} {m : DEnv → M Out} (F : FA K x qual st ps f) (S : FnScope N ps (defScope st))
    (hb : ∀ (cdv : Value) (A : Around) (outer : List Env) (s : Shared) (H : Hp) (E : XK), Room lvl (A.deeper (envOfC qual (defScope st) s.heap.objs.size f cdv)) → JB k (cxOf (L2.CX P w) P w K mg base N qual (defScope st) f cdv A outer s H E) E (defBody st) m) :
    FnR P w K mg base (L2.CX P w) (lvl + 1) f (spD k K ps.length (fnD N.length m)) := by
  obtain ⟨fd, h, b⟩ := F.ex
  refine FnR.imp ((fn_ok h S hb).raw b .nil) fun vs H Q E z => ?_
  rw [List.append_nil]
  exact z
theorem pass_def {N : List Str} {qual : Str} {sc : Scope} {f : Addr} {cdv : Value} {A : Around} {outer : List Env} {s : Shared} {H : Hp} {E : XK} : Passes (L2.CX P w) (cxOf (L2.CX P w) P w K mg base N qual sc f cdv A outer s H E) E :=
  passes_call (takes_of rfl rfl rfl rfl) (fun _ _ _ _ h => h)
theorem kd_all {p : Kd → Prop} (h1 : p .non) (h2 : p .bl) (h3 : p .int) (h4 : p .str) (h5 : p .lst) (h6 : p .tup) : ∀ kd, (∀ c, kd ≠ .obj c) → p kd
  | .non, _ => h1
  | .bl, _ => h2
  | .int, _ => h3
  | .str, _ => h4
  | .lst, _ => h5
  | .tup, _ => h6
  | .obj c, n => absurd rfl (n c)
theorem in_nil {p : Nat → Prop} : ∀ c ∈ ([] : List Nat), p c := fun _ h => nomatch h
theorem in_cons {p : Nat → Prop} {c : Nat} {r : List Nat} (h : p c) (hr : ∀ c ∈ r, p c) : ∀ x ∈ c :: r, p x := fun x hx => by
  rcases List.mem_cons.mp hx with q | q
  · rw [q]; exact h
  · exact hr x q
theorem hr_un65 {lvl : Nat} {A : Around} (r : Room lvl A) : A.units + 65 < cLine := by have := r.un; omega
def PrA (K : PySem.W.Frag) (C : Addr) (f : Str) (g : Addr) : Prop := ∃ p rest, PySem.W.findIn K (.ref C) f = some (some (.ref p)) ∧ PySem.W.specialIn K (.ref p) "__get__" = some (some (.builtin "property.__get__")) ∧
      PySem.W.takesIn K (.ref p) = some true ∧ PySem.W.recIn K p "property" = some (.ref g :: rest)
theorem prop_at {X : Cx} {f : Str} {c lvl : Nat} {g : Addr} {den : List D → M D} (h1 : SlX.SCls X.K (k.cl c)) (h2 : PrA X.K (k.cl c) f g) (h3 : FnDn k X lvl g 1 den) (h4 : Room (lvl + 1) X.A) : At1 k X f c (.prop den) :=
  let ⟨p, rest, a1, a2, a3, a4⟩ := h2
  ⟨h1, p, g, lvl, rest, a1, a2, a3, a4, h3, h4⟩
theorem kit_rt {C : Addr} {T : String} {b : Bool} (h : PySem.W.mroIn K C (.type T) = some b) (hm : PySem.W.kitMeta T = true) : PySem.W.kitOne K (.ref C) (.type T) = some b := by
  unfold PySem.W.kitOne
  rw [if_neg (by simp)]
  unfold PySem.W.kitCls
  simp only [hm, if_true]
  exact h
theorem kit_same {C : Addr} : PySem.W.kitOne K (.ref C) (.ref C) = some true := by
  unfold PySem.W.kitOne
  rw [if_pos (beq_self_eq_true _)]
theorem kit_to {C : Addr} {T : String} {b : Bool} (h : PySem.W.subIn K (.type T) (.ref C) = some b) (hc : PySem.W.isClsIn K C = true) (ht : PySem.W.typeIn K (.ref C) = some (.type "type")) : PySem.W.kitOne K (.type T) (.ref C) = some b := by
  unfold PySem.W.kitOne
  rw [if_neg (by simp)]
  unfold PySem.W.kitCls
  have hc' : (PySem.W.clsIn K C).isSome = true := hc
  simp only [hc', ht, beq_self_eq_true, Bool.and_self, if_true]
  exact h
theorem kit_no2 {C : Addr} (h1 : PySem.W.mroIn K C (.type "list") = some false) (h2 : PySem.W.mroIn K C (.type "tuple") = some false) : PySem.W.kitAny K (.ref C) [.type "list", .type "tuple"] = some false :=
  kitAny_cons (kit_rt h1 (by decide +kernel)) (fun _ => kitAny_cons (kit_rt h2 (by decide +kernel)) (fun _ => kitAny_nil) fun z => by cases z) fun z => by cases z
/-! ### the head -/
def spLaw (K : PySem.W.Frag) : Sp := fun vs H Q _ => ∃ (a : Addr) (ns : List Int), vs = [.ref a] ∧ SqL K H a (ns.map V.int) ∧ ns.length ≤ 63 ∧ ∀ H', Q (.bl true) H'
theorem law_imp {den : List D → M D} (h : ∀ ns : List Int, ns.length ≤ 63 → ∃ m', den [.lst (ns.map .int)] [] = .ok (.bl true) m') (vs : List V) (H : Hp) (Q : VK) (E : XK) (z : spLaw K vs H Q E) : spD k K 1 den vs H Q E := by
  obtain ⟨a, ns, rfl, hs, hl, q⟩ := z
  refine ⟨[.lst (ns.map .int)], H, [], [], .cons (.lst hs (rpa_ints ns)) .nil, rfl, ⟨fun _ _ e => e, rfl, fun p hp => (by simp at hp), fun n c e => by simp at e, fun i j a b a' b' li => by obtain ⟨c, hc⟩ := li; simp at hc⟩, ?_⟩
  obtain ⟨m', h'⟩ := h ns hl
  rw [h']
  intro G' H' L' st w v r
  cases r
  exact q H'
theorem cx_no {w : World} {H : Hp} {s : Shared} {e : Value} {s' : Shared} (h : L2.CX P w [] H s (fun _ _ _ => False) e s') : False := by
  obtain ⟨_, _, _, _, _, _, _, _, _, _, _, _, z⟩ := h
  exact z
theorem law_walk {l : PySem.W.OpenLaw} {q : Program} {loose : List Str} {XP : (Str → Option Value) → Heap → Prop} {YP : World → Heap → Prop} {d : DefRec} {K : Params → PySem.W.Frag} {lvl : Nat} {x : Str} (hn : l.most = some 63) (hdf : d.params.defaults = []) (hr : Room lvl callerA)
    (hY : ∀ (w : World) (h : Heap), YP w h → (K w.params).In h)
    (F : ∀ (w : World) (mg : Str → Option Value) (fa : Addr) (h : Heap), (K w.params).In h → h.Ns mainGlobals mg → mg d.name = some (.ref fa) →
      ∃ fd : FuncData, (∀ (s : Shared) (u : Value), BindsTo s fd ⟨[u], []⟩ [(x, u)]) ∧ ∀ base : Heap, (K w.params).In base → base.Ns mainGlobals mg → FnOk l.prog w (K w.params) mg base (L2.CX l.prog w) lvl fa fd [x] (spLaw (K w.params))) :
    PySem.W.WalkO q loose XP YP l.row.toRowW d [] (fun f vs => PySem.call f vs) :=
  L2.walk_of (n := 63) (k := lvl) (x := x) (CX := fun w => L2.CX l.prog w) (sp := fun w => spLaw (K w.params)) hn (by decide) hdf hr hY F (fun _ _ a ns hl _ hS => ⟨a, ns, rfl, hS, hl, fun _ => rfl⟩) fun _ _ _ _ _ z => cx_no z
end
end DL

namespace DL
open PySem L2

/-! ### reading the denotations -/
def Res.thn {α β : Type} (r : Res α) (f : α → Store → Res β) : Res β := match r with
  | .ok a m => f a m
  | .exn c fs m => .exn c fs m
  | .bad => .bad
section
variable {α β : Type}
@[simp] theorem thn_ok (a : α) (m : Store) (f : α → Store → Res β) : (Res.ok a m).thn f = f a m := (rfl)
@[simp] theorem thn_bad (f : α → Store → Res β) : (Res.bad : Res α).thn f = .bad := (rfl)
@[simp] theorem bind_ap (x : M α) (f : α → M β) (m : Store) : (x >>= f) m = (x m).thn fun a m1 => f a m1 := by
  show M.bind x f m = _
  unfold M.bind Res.thn
  cases x m <;> rfl
@[simp] theorem pure_ap (a : α) (m : Store) : (pure a : M α) m = .ok a m := (rfl)
@[simp] theorem bad_ap (m : Store) : (M.bad : M α) m = .bad := (rfl)
@[simp] theorem ite_ap {c : Prop} [Decidable c] (x y : M α) (m : Store) : (if c then x else y) m = if c then x m else y m := by split <;> rfl
variable (e : DEnv) (m : Store)
@[simp] theorem eVar_ap (i : Nat) : eVar i e m = getv i e m := (rfl)
@[simp] theorem getv_some {i : Nat} {d : D} {e : DEnv} (h : e[i]? = some (some d)) : getv i e m = .ok d m := by
  unfold getv
  rw [h]
  rfl
@[simp] theorem eC_ap (d : D) : eC d e m = .ok d m := (rfl)
@[simp] theorem eOp_ap (g : D → D → M D) (a b : DEnv → M D) : eOp g a b e m = (a e m).thn fun x m1 => (b e m1).thn fun y m2 => g x y m2 := by simp [eOp]
@[simp] theorem eUn_ap (g : D → M D) (a : DEnv → M D) : eUn g a e m = (a e m).thn fun x m1 => g x m1 := by simp [eUn]
@[simp] theorem asB_bl (b : Bool) : asB (.bl b) m = .ok b m := (rfl)
@[simp] theorem eIf_ap (t : DEnv → M Bool) (a b : DEnv → M D) : eIf t a b e m = (t e m).thn fun c m1 => if c then a e m1 else b e m1 := by simp [eIf]
@[simp] theorem eAnd_ap (a b : DEnv → M D) : eAnd a b e m = (a e m).thn fun x m1 => (asB x m1).thn fun c m2 => if c then b e m2 else .ok (.bl false) m2 := by simp [eAnd]
@[simp] theorem eOr_ap (a b : DEnv → M D) : eOr a b e m = (a e m).thn fun x m1 => (asB x m1).thn fun c m2 => if c then .ok (.bl true) m2 else b e m2 := by simp [eOr]
@[simp] theorem eNot_ap (a : DEnv → M D) : eNot a e m = (a e m).thn fun x m1 => (asB x m1).thn fun c m2 => .ok (.bl (!c)) m2 := by simp [eNot]
@[simp] theorem eChain_ap (g g' : D → D → M D) (a b c : DEnv → M D) : eChain g g' a b c e m = (a e m).thn fun x m1 => (b e m1).thn fun y m2 => (g x y m2).thn fun r m3 => (asB r m3).thn fun c1 m4 => if c1 then (c e m4).thn fun z m5 => g' y z m5 else .ok (.bl false) m4 := by simp [eChain]
@[simp] theorem tB_ap (a : DEnv → M D) : tB' a e m = (a e m).thn fun x m1 => asB x m1 := by simp [tB']
@[simp] theorem tAnd_ap (t u : DEnv → M Bool) : tAndD t u e m = (t e m).thn fun c m1 => if c then u e m1 else .ok false m1 := by simp [tAndD]
@[simp] theorem tOr_ap (t u : DEnv → M Bool) : tOrD t u e m = (t e m).thn fun c m1 => if c then .ok true m1 else u e m1 := by simp [tOrD]
@[simp] theorem tNot_ap (t : DEnv → M Bool) : tNotD t e m = (t e m).thn fun c m1 => .ok (!c) m1 := by simp [tNotD]
@[simp] theorem aNil_ap : aNil e m = .ok [] m := (rfl)
@[simp] theorem aCons_ap (a : DEnv → M D) (r : DEnv → M (List D)) : aCons a r e m = (a e m).thn fun x m1 => (r e m1).thn fun xs m2 => .ok (x :: xs) m2 := by simp [aCons]
@[simp] theorem eCallB_ap (g : List D → M D) (as : DEnv → M (List D)) : eCallB g as e m = (as e m).thn fun xs m1 => g xs m1 := by simp [eCallB]
@[simp] theorem eTup_ap (as : DEnv → M (List D)) : eTup as e m = (as e m).thn fun xs m1 => mkT xs m1 := by simp [eTup]
@[simp] theorem eLst_ap (as : DEnv → M (List D)) : eLst as e m = (as e m).thn fun xs m1 => mkL xs m1 := by simp [eLst]
@[simp] theorem eLstM_ap (as : DEnv → M (List D)) : eLstM as e m = (as e m).thn fun xs m1 => newM xs m1 := by simp [eLstM]
@[simp] theorem mkT_ap (ds : List D) : mkT ds m = if ds.length ≤ 100000 then .ok (.tup ds) m else .bad := by simp [mkT]
@[simp] theorem mkL_ap (ds : List D) : mkL ds m = if ds.length ≤ 100000 then .ok (.lst ds) m else .bad := by simp [mkL]
@[simp] theorem seq_lst (ds : List D) : seqD (.lst ds) m = .ok ds m := (rfl)
@[simp] theorem seq_tup (ds : List D) : seqD (.tup ds) m = .ok ds m := (rfl)
theorem seq_loc {n : Nat} {ds : List D} {m : Store} (h : m[n]? = some (some (.lst ds))) : seqD (.loc n) m = .ok ds m := by simp [seqD, h]
@[simp] theorem src_lst (ds : List D) : srcD (.lst ds) m = .ok ⟨ds, []⟩ m := (rfl)
@[simp] theorem src_tup (ds : List D) : srcD (.tup ds) m = .ok ⟨ds, []⟩ m := (rfl)
@[simp] theorem chk_nil (ds : List D) : chk ⟨ds, []⟩ m = .ok () m := (rfl)
@[simp] theorem tYes_ap : tYesD e m = .ok true m := (rfl)
-- statements
@[simp] theorem sNil_ap : sNil e m = .ok (.nx e) m := (rfl)
@[simp] theorem andThen_nx (s : DEnv → M Out) : andThen (.nx e) s m = s e m := (rfl)
@[simp] theorem andThen_rt (d : D) (s : DEnv → M Out) : andThen (.rt d) s m = .ok (.rt d) m := (rfl)
@[simp] theorem sSeq_ap (s t : DEnv → M Out) : sSeq s t e m = (s e m).thn fun o m1 => andThen o t m1 := by simp [sSeq]
@[simp] theorem sSet_ap (i : Nat) (a : DEnv → M D) : sSet i a e m = (a e m).thn fun x m1 => .ok (.nx (e.set i (some x))) m1 := by simp [sSet]
@[simp] theorem sAsg_ap (a : DEnv → M D) (g : D → DEnv → M DEnv) : sAsg a g e m = (a e m).thn fun x m1 => (g x e m1).thn fun e2 m2 => .ok (.nx e2) m2 := by simp [sAsg]
@[simp] theorem sIf_ap (t : DEnv → M Bool) (s u : DEnv → M Out) : sIf t s u e m = (t e m).thn fun c m1 => if c then s e m1 else u e m1 := by simp [sIf]
@[simp] theorem sRet_ap (a : DEnv → M D) : sRet a e m = (a e m).thn fun x m1 => .ok (.rt x) m1 := by simp [sRet]
@[simp] theorem sExpr_ap (a : DEnv → M D) : sExpr a e m = (a e m).thn fun x m1 => .ok (.nx e) m1 := by simp [sExpr]
@[simp] theorem sBad_ap : sBad e m = .bad := (rfl)
@[simp] theorem sFor_ap (it : DEnv → M Src) (g : D → DEnv → M DEnv) (b : DEnv → M Out) : sFor it g b e m = (it e m).thn fun src m1 => forL src g b src.items e m1 := by simp [sFor]
@[simp] theorem gNm_ap (i : Nat) (d : D) : gNm i d e m = .ok (e.set i (some d)) m := (rfl)
@[simp] theorem gTp_ap (n : Nat) (g : List D → DEnv → M DEnv) (ds : List D) (h : ds.length = n) : gTp n g (.tup ds) e m = g ds e m := by simp [gTp, h]
@[simp] theorem gsNil_ap (ds : List D) : gsNil ds e m = .ok e m := (rfl)
@[simp] theorem gsCons_ap (g : D → DEnv → M DEnv) (gs : List D → DEnv → M DEnv) (d : D) (ds : List D) : gsCons g gs (d :: ds) e m = (g d e m).thn fun e1 m1 => gs ds e1 m1 := by simp [gsCons]
def par2 (i j : Nat) (e : DEnv) : List D → Store → Res Out
  | [x, y], m1 => .ok (.nx ((e.set i (some x)).set j (some y))) m1
  | _, _ => .bad
@[simp] theorem par2_two (i j : Nat) (x y : D) : par2 i j e [x, y] m = .ok (.nx ((e.set i (some x)).set j (some y))) m := (rfl)
@[simp] theorem sParA_ap (i j : Nat) (as : DEnv → M (List D)) : sParA i j as e m = (as e m).thn fun ds m1 => par2 i j e ds m1 := by
  simp only [sParA, bind_ap]
  congr
  funext ds m1
  match ds with
  | [] => rfl
  | [_] => rfl
  | [_, _] => rfl
  | _ :: _ :: _ :: _ => rfl
@[simp] theorem iSeq_ap (a : DEnv → M D) : iSeqD a e m = (a e m).thn fun x m1 => srcD x m1 := by simp [iSeqD]
theorem iRg1_ap (as : DEnv → M (List D)) {n : Int} {m1 : Store} (h : as e m = .ok [.int n] m1) (h1 : -(2 ^ 62) ≤ n) (h2 : n < 2 ^ 62) : iRg1 as e m = .ok ⟨rngI 0 n.toNat, []⟩ m1 := by
  have hc : -(2 ^ 62) ≤ n ∧ n < 2 ^ 62 := ⟨h1, h2⟩
  simp only [iRg1, bind_ap, h, thn_ok, ite_ap, hc, and_self, if_true, pure_ap]
theorem iZip_ap (as : DEnv → M (List D)) {x y : D} {m1 : Store} {xs ys : List D} (h : as e m = .ok [x, y] m1) (h1 : srcD x m1 = .ok ⟨xs, []⟩ m1) (h2 : srcD y m1 = .ok ⟨ys, []⟩ m1) : iZip as e m = .ok ⟨zipT xs ys, []⟩ m1 := by
  simp [iZip, h, h1, h2]
-- calls
@[simp] theorem callN_ap {n : Nat} (den : List D → M D) {ds : List D} (h : ds.length = n) : callN n den ds m = den ds m := by simp [callN, h]
end
/-! ### loops -/
theorem forL_inv {src : List D} {g : D → DEnv → M DEnv} {b : DEnv → M Out} (I : Nat → DEnv → Store → Prop) : ∀ (ds : List D) (i : Nat) (e : DEnv) (m : Store),
    I i e m → (∀ j d e m, ds[j]? = some d → I (i + j) e m → ∃ e1 m1 e2 m2, g d e m = .ok e1 m1 ∧ (b e1 m1 = .ok (.nx e2) m2 ∨ b e1 m1 = .ok (.ct e2) m2) ∧ I (i + j + 1) e2 m2) →
    ∃ e' m', forL ⟨src, []⟩ g b ds e m = .ok (.nx e') m' ∧ I (i + ds.length) e' m'
  | [], i, e, m, h, _ => ⟨e, m, by simp [forL], h⟩
  | d :: ds, i, e, m, h, st => by
    obtain ⟨e1, m1, e2, m2, h1, h2, h3⟩ := st 0 d e m rfl h
    obtain ⟨e', m', h4, h5⟩ := forL_inv (src := src) I ds (i + 1) e2 m2 (by simpa using h3) (fun j d e m hj hi => by
      have := st (j + 1) d e m (by simpa using hj) (by rw [show i + (j + 1) = i + 1 + j by omega]; exact hi)
      obtain ⟨a1, a2, a3, a4, a5, a6, a7⟩ := this
      exact ⟨a1, a2, a3, a4, a5, a6, by rw [show i + 1 + j + 1 = i + (j + 1) + 1 by omega]; exact a7⟩)
    refine ⟨e', m', ?_, by rw [List.length_cons, show i + (ds.length + 1) = i + 1 + ds.length by omega]; exact h5⟩
    rcases h2 with h2 | h2 <;> simp [forL, h1, h2, h4]
/-- a comprehension whose items are had one by one, the store kept -/
theorem compL_map {src : List D} {g : D → DEnv → M DEnv} {elt : DEnv → M D} {e : DEnv} {m : Store} {f : D → D} : ∀ (ds : List D), (∀ d ∈ ds, ∃ e1, g d e m = .ok e1 m ∧ elt e1 m = .ok (f d) m) → compL ⟨src, []⟩ g tYesD elt e ds m = .ok (ds.map f) m
  | [], _ => by simp [compL]
  | d :: ds, h => by
    obtain ⟨e1, h1, h2⟩ := h d (by simp)
    have := compL_map (src := src) (g := g) (elt := elt) (e := e) (m := m) (f := f) ds fun x hx => h x (by simp [hx])
    simp [compL, noX, h1, h2, this]
theorem eComp_map {it : DEnv → M Src} {g : D → DEnv → M DEnv} {elt : DEnv → M D} {vs : List Nat} {e : DEnv} {m : Store} {ds : List D} {f : D → D} (hi : it e m = .ok ⟨ds, []⟩ m) (hl : ds.length ≤ 100000)
    (h : ∀ d ∈ ds, ∃ e1, g d (wipeD e vs) m = .ok e1 m ∧ elt e1 m = .ok (f d) m) : eComp it g tYesD elt vs e m = .ok (.lst (ds.map f)) m := by
  simp [eComp, compM, hi, sizeOk, hl, compL_map ds h]
/-! ### scopes -/
theorem trim_same (m : Store) : trimOk m m = true := by
  unfold trimOk
  simp [cellKept, List.all_eq_true]
  intro a b h
  rw [List.mem_iff_getElem?] at h
  obtain ⟨i, hi⟩ := h
  rw [List.getElem?_zip_eq_some] at hi
  left
  have := hi.1.symm.trans hi.2
  simpa using this
theorem fn_pure {n : Nat} {b : DEnv → M Out} {ds : List D} {m : Store} {d : D} (h : b (startD n ds) m = .ok (.rt d) m) : fnD n b ds m = .ok d m := by
  simp [fnD, scopeM, runB, h]
theorem fn_pureN {n : Nat} {b : DEnv → M Out} {ds : List D} {m : Store} {e : DEnv} (h : b (startD n ds) m = .ok (.nx e) m) : fnD n b ds m = .ok .non m := by
  simp [fnD, scopeM, runB, h]
theorem fn_any {n : Nat} {b : DEnv → M Out} {ds : List D} {m m' : Store} {d : D} (h : b (startD n ds) m = .ok (.rt d) m') (hl : m'.length = m.length) : fnD n b ds m = .ok d m' := by
  have ht : m'.take m.length = m' := by rw [← hl, List.take_length]
  simp [fnD, scopeM, runB, h, ht]
theorem fn_anyN {n : Nat} {b : DEnv → M Out} {ds : List D} {m m' : Store} {e : DEnv} (h : b (startD n ds) m = .ok (.nx e) m') (hl : m'.length = m.length) : fnD n b ds m = .ok .non m' := by
  have ht : m'.take m.length = m' := by rw [← hl, List.take_length]
  simp [fnD, scopeM, runB, h, ht]
/-- a def that hands back what it made -/
theorem fn_new {n : Nat} {b : DEnv → M Out} {ds : List D} {m : Store} {c : Cell} {d : D} (h : b (startD n ds) m = .ok (.rt d) (m ++ [some c])) : fnD n b ds m = .ok d (m ++ [some c]) := by
  have ht : trimOk m (m ++ [some c]) = false := by simp [trimOk]
  simp [fnD, scopeM, runB, h, ht]
theorem set_last (m : Store) (x y : Option Cell) : (m ++ [x]).set m.length y = m ++ [y] := by simp
theorem get_last (m : Store) (x : Option Cell) : (m ++ [x])[m.length]? = some x := by simp
theorem allSome_map : ∀ vs : List D, allSome (vs.map some) = some vs
  | [] => rfl
  | v :: vs => by simp [allSome, allSome_map vs]
theorem trim_none (m : Store) : trimOk m (m ++ [none]) = true := by
  have := trim_same m
  unfold trimOk at this ⊢
  simp at this ⊢
  exact this
theorem make_ok {c n : Nat} {den : List D → M D} {ds vs : List D} {m : Store} (hl : ds.length + 1 = n) (h : den (.loc m.length :: ds) (m ++ [some (.ins c [])]) = .ok .non (m ++ [some (.ins c (vs.map some))])) (hu : D.undL m.length vs = true) :
    makeD c n den ds m = .ok (.obj c vs) m := by
  simp [makeD, scopeM, newI, callN, hl, h, isNon, frzI, get_last, allSome_map, set_last, trim_none, D.und, hu]
@[simp] theorem isi_int (cs : List Nat) (t : Ty) (i : Int) (m : Store) : isiD cs t (.int i) m = .ok (.bl (isK t .int)) m := (rfl)
@[simp] theorem isi_bl (cs : List Nat) (t : Ty) (i : Bool) (m : Store) : isiD cs t (.bl i) m = .ok (.bl (isK t .bl)) m := (rfl)
@[simp] theorem isi_lst (cs : List Nat) (t : Ty) (i : List D) (m : Store) : isiD cs t (.lst i) m = .ok (.bl (isK t .lst)) m := (rfl)
@[simp] theorem isi_tup (cs : List Nat) (t : Ty) (i : List D) (m : Store) : isiD cs t (.tup i) m = .ok (.bl (isK t .tup)) m := (rfl)
@[simp] theorem isi_obj (cs : List Nat) (t : Ty) (c : Nat) (i : List D) (m : Store) (h : c ∈ cs) : isiD cs t (.obj c i) m = .ok (.bl (isK t (.obj c))) m := by simp [isiD, kindOf, h]
@[simp] theorem eIsi_ap (cs : List Nat) (t : Ty) (a : DEnv → M D) (e : DEnv) (m : Store) : eIsi cs t a e m = (a e m).thn fun x m1 => isiD cs t x m1 := by simp [eIsi]
@[simp] theorem add_int (i j : Int) (m : Store) : addD (.int i) (.int j) m = .ok (.int (i + j)) m := (rfl)
@[simp] theorem sub_int (i j : Int) (m : Store) : subD (.int i) (.int j) m = .ok (.int (i - j)) m := (rfl)
@[simp] theorem neg_int (i : Int) (m : Store) : negD (.int i) m = .ok (.int (-i)) m := (rfl)
theorem mod_int {i j : Int} (m : Store) (h : 0 < j) : modD (.int i) (.int j) m = .ok (.int (i % j)) m := by simp [modD, gI, h]
theorem fdv_int {i j : Int} (m : Store) (h : 0 < j) (h2 : j < 2 ^ 100) : fdvD (.int i) (.int j) m = .ok (.int (i / j)) m := by
  have hc : CDv i j := ⟨h, h2⟩
  show (if CDv i j then (pure (.int (i / j)) : M D) else M.bad) m = _
  rw [if_pos hc]
  rfl
theorem mul_int {i j : Int} (m : Store) (h : CM i j) : mulD (.int i) (.int j) m = .ok (.int (i * j)) m := by
  show (if CM i j then (pure (.int (i * j)) : M D) else M.bad) m = _
  rw [if_pos h]
  rfl
theorem pow_int {i j : Int} (m : Store) (h : CPw i j) : powD (.int i) (.int j) m = .ok (.int (i ^ j.toNat)) m := by
  show (if CPw i j then (pure (.int (i ^ j.toNat)) : M D) else M.bad) m = _
  rw [if_pos h]
  rfl
@[simp] theorem lt_int (i j : Int) (m : Store) : ltD (.int i) (.int j) m = .ok (.bl (decide (i < j))) m := (rfl)
@[simp] theorem le_int (i j : Int) (m : Store) : leD (.int i) (.int j) m = .ok (.bl (decide (i ≤ j))) m := (rfl)
@[simp] theorem gt_int (i j : Int) (m : Store) : gtD (.int i) (.int j) m = .ok (.bl (decide (j < i))) m := (rfl)
@[simp] theorem ge_int (i j : Int) (m : Store) : geD (.int i) (.int j) m = .ok (.bl (decide (j ≤ i))) m := (rfl)
@[simp] theorem int_int (i : Int) (m : Store) : intD [.int i] m = .ok (.int i) m := (rfl)
@[simp] theorem int_bl (b : Bool) (m : Store) : intD [.bl b] m = .ok (.int (if b then 1 else 0)) m := (rfl)
@[simp] theorem max_int (i j : Int) (m : Store) : maxD [.int i, .int j] m = .ok (.int (if j > i then j else i)) m := (rfl)
@[simp] theorem min_int (i j : Int) (m : Store) : minD [.int i, .int j] m = .ok (.int (if j < i then j else i)) m := (rfl)
@[simp] theorem len_lst (ds : List D) (m : Store) : lenD [.lst ds] m = .ok (.int ds.length) m := (rfl)
@[simp] theorem len_tup (ds : List D) (m : Store) : lenD [.tup ds] m = .ok (.int ds.length) m := (rfl)
@[simp] theorem tuple_tup (ds : List D) (m : Store) : tupleD [.tup ds] m = .ok (.tup ds) m := (rfl)
@[simp] theorem tuple_lst (ds : List D) (m : Store) : tupleD [.lst ds] m = mkT ds m := (rfl)
@[simp] theorem list_tup (ds : List D) (m : Store) : listD [.tup ds] m = mkL ds m := (rfl)
@[simp] theorem list_lst (ds : List D) (m : Store) : listD [.lst ds] m = mkL ds m := (rfl)
theorem ix_seq {x d : D} {ds : List D} {i : Int} {m : Store} (h : seqD x m = .ok ds m) (h1 : 0 ≤ i) (h2 : ds[i.toNat]? = some d) : ixD x (.int i) m = .ok d m := by
  have hl := (List.getElem?_eq_some_iff.mp h2).1
  have h3 : i < ds.length := by omega
  have h4 := (List.getElem?_eq_some_iff.mp h2).2
  simp [ixD, h, atI, ixN, h1, h3, h4]
/-! whole numbers -/
def ils (ns : List Int) : List D := ns.map .int
theorem ils_eq (ns : List Int) : ns.map D.int = ils ns := rfl
@[simp] theorem ils_length (ns : List Int) : (ils ns).length = ns.length := by simp [ils]
@[simp] theorem ils_get (ns : List Int) (i : Nat) : (ils ns)[i]? = (ns[i]?).map .int := by simp [ils]
@[simp] theorem ils_app (a b : List Int) : ils a ++ ils b = ils (a ++ b) := by simp [ils]
@[simp] theorem ils_app1 (a : List Int) (i : Int) : ils a ++ [.int i] = ils (a ++ [i]) := by simp [ils]
theorem ils_cons (i : Int) (a : List Int) : ils (i :: a) = .int i :: ils a := rfl
@[simp] theorem ils_nil : ils [] = [] := rfl
@[simp] theorem ils_inj {a b : List Int} : ils a = ils b ↔ a = b := by
  refine ⟨fun h => ?_, fun h => by rw [h]⟩
  induction a generalizing b with
  | nil => cases b with
    | nil => rfl
    | cons y b => simp [ils] at h
  | cons x a ih => cases b with
    | nil => simp [ils] at h
    | cons y b =>
      simp only [ils_cons, List.cons.injEq, D.int.injEq] at h
      rw [h.1, ih h.2]
theorem undL_ints (n : Nat) : ∀ ns : List Int, D.undL n (ils ns) = true
  | [] => rfl
  | i :: ns => by rw [ils_cons]; simp [D.undL, D.und]; exact undL_ints n ns
theorem intsD_ints : ∀ ns : List Int, intsD (ils ns) = some ns
  | [] => rfl
  | i :: ns => by rw [ils_cons]; simp [intsD]; exact intsD_ints ns
theorem sum_ints (ns : List Int) (m : Store) : sumD [.lst (ils ns)] m = .ok (.int ns.sum) m := by simp [sumD, intsD_ints]
theorem toPDs_ints : ∀ ns : List Int, toPDs (ils ns) = some (ns.map .int)
  | [] => rfl
  | i :: ns => by rw [ils_cons]; simp [toPDs, toPD]; rw [toPDs_ints ns]
theorem canLay_ints : ∀ ns : List Int, PyData.canLayAll0 (ns.map .int) = true
  | [] => rfl
  | i :: ns => by simp [PyData.canLayAll0, PyData.canLay0]; exact canLay_ints ns
theorem depth_ints : ∀ ns : List Int, PyData.depthAll (ns.map .int) = 0
  | [] => rfl
  | i :: ns => by simp [PyData.depthAll, PyData.depth]; exact depth_ints ns
@[simp] theorem eq_int (i j : Int) (m : Store) : eqD (.int i) (.int j) m = .ok (.bl (i == j)) m := by simp [eqD, onPD, topPD, toPD, SeqAt.shaped, PyData.canLay0, PyData.depth, PyData.eqv]
@[simp] theorem ne_int (i j : Int) (m : Store) : neD (.int i) (.int j) m = .ok (.bl (!(i == j))) m := by simp [neD, onPD, topPD, toPD, SeqAt.shaped, PyData.canLay0, PyData.depth, PyData.eqv]
@[simp] theorem eq_bl (i j : Bool) (m : Store) : eqD (.bl i) (.bl j) m = .ok (.bl (i == j)) m := by simp [eqD, onPD, topPD, toPD, SeqAt.shaped, PyData.canLay0, PyData.depth, PyData.eqv]
theorem eq_tup (ns ms : List Int) (m : Store) : eqD (.tup (ils ns)) (.tup (ils ms)) m = .ok (.bl (decide (ns = ms))) m := by
  simp [eqD, onPD, topPD, toPD, toPDs_ints, SeqAt.shaped, PyData.canLay0, PyData.depth, PyData.eqv, canLay_ints, depth_ints, PySem.W.ked_eqvAll]
end DL

namespace DL
open PySem L2
/-! ### comprehensions over what is had by a map -/
theorem compL_on {α : Type} {src : List D} {g : D → DEnv → M DEnv} {elt : DEnv → M D} {e : DEnv} {m : Store} {h f : α → D} : ∀ (xs : List α), (∀ x ∈ xs, ∃ e1, g (h x) e m = .ok e1 m ∧ elt e1 m = .ok (f x) m) → compL ⟨src, []⟩ g tYesD elt e (xs.map h) m = .ok (xs.map f) m
  | [], _ => by simp [compL]
  | d :: ds, q => by
    obtain ⟨e1, h1, h2⟩ := q d (by simp)
    have := compL_on (src := src) (g := g) (elt := elt) (e := e) (m := m) (h := h) (f := f) ds fun x hx => q x (by simp [hx])
    simp [compL, noX, h1, h2, this]
theorem eComp_on {α : Type} {it : DEnv → M Src} {g : D → DEnv → M DEnv} {elt : DEnv → M D} {vs : List Nat} {e : DEnv} {m : Store} {xs : List α} {h f : α → D} (hi : it e m = .ok ⟨xs.map h, []⟩ m) (hl : xs.length ≤ 100000)
    (q : ∀ x ∈ xs, ∃ e1, g (h x) (wipeD e vs) m = .ok e1 m ∧ elt e1 m = .ok (f x) m) : eComp it g tYesD elt vs e m = .ok (.lst (xs.map f)) m := by
  simp [eComp, compM, hi, sizeOk, hl, compL_on xs q]
theorem zipT_ils (a b : List Int) : zipT (ils a) (ils b) = (a.zip b).map fun q => D.tup [.int q.1, .int q.2] := by
  simp [zipT, ils, List.zip_map]
theorem rngI_eq (n : Nat) : rngI 0 n = (List.range n).map fun (i : Nat) => D.int (i : Int) := by simp [rngI]
abbrev pr2 (q : Int × Int) : D := D.tup [.int q.1, .int q.2]
def Sq (b : Bool) (ns : List Int) : D := if b then .tup (ils ns) else .lst (ils ns)
@[simp] theorem src_Sq (b : Bool) (ns : List Int) (m : Store) : srcD (Sq b ns) m = .ok ⟨ils ns, []⟩ m := by cases b <;> rfl
@[simp] theorem seq_Sq (b : Bool) (ns : List Int) (m : Store) : seqD (Sq b ns) m = .ok (ils ns) m := by cases b <;> rfl
@[simp] theorem len_Sq (b : Bool) (ns : List Int) (m : Store) : lenD [Sq b ns] m = .ok (.int ns.length) m := by cases b <;> simp [Sq]
@[simp] theorem isi_Sq (cs : List Nat) (b : Bool) (ns : List Int) (m : Store) : isiD cs .seq (Sq b ns) m = .ok (.bl true) m := by cases b <;> rfl
theorem tuple_Sq (b : Bool) (ns : List Int) (m : Store) (h : ns.length ≤ 100000) : tupleD [Sq b ns] m = .ok (.tup (ils ns)) m := by cases b <;> simp [Sq, h]
theorem tru_bls : ∀ bs : List Bool, truFs (bs.map D.bl) = some bs
  | [] => rfl
  | b :: bs => by simp [truFs, truF]; rw [tru_bls bs]
theorem all_bls (bs : List Bool) (m : Store) : allD [.lst (bs.map D.bl)] m = .ok (.bl (bs.all id)) m := by simp [allD, tru_bls]
theorem tru_ils : ∀ ns : List Int, truFs (ils ns) = some (ns.map (· != 0))
  | [] => rfl
  | b :: bs => by rw [ils_cons]; simp [truFs, truF]; rw [tru_ils bs]
theorem any_tup (ns : List Int) (m : Store) : anyD [.tup (ils ns)] m = .ok (.bl ((ns.map (· != 0)).any id)) m := by simp [anyD, tru_ils]
theorem cm_r {i j : Int} (h1 : -1000000000000 ≤ j) (h2 : j ≤ 1000000000000) : CM i j := .inr ⟨by omega, by omega⟩
theorem cm_l {i j : Int} (h1 : -1000000000000 ≤ i) (h2 : i ≤ 1000000000000) : CM i j := .inl ⟨by omega, by omega⟩
theorem iRg1_nat {as : DEnv → M (List D)} {e : DEnv} {m m1 : Store} {s : Nat} (hs : s ≤ 1000000000) (h : as e m = .ok [.int s] m1) : iRg1 as e m = .ok ⟨rngI 0 s, []⟩ m1 := by
  have := iRg1_ap e m as (n := s) (m1 := m1) h (by omega) (by omega)
  simpa using this
end DL

namespace LW
open PySem L2 DL
def b_source : DEnv → M Out := (sSeq (sSet 2 (eC (.int 0))) (sSeq (sIf (tB' (eOp ltD (eVar 1) (eCallB lenD (aCons (eVar 0) aNil)))) (sSet 2 (eOp ixD (eVar 0) (eVar 1))) sNil) (sSeq (sSet 3 (eCallB maxD (aCons (eVar 2) (aCons (eOp subD (eUn negD (eC (.int 1))) (eVar 2)) aNil)))) (sSeq (sSet 4 (eOp modD (eCallB intD (aCons (eOp addD (eOp addD (eOp mulD (eOp modD (eCallB intD (aCons (eVar 3) aNil)) (eC (.int 2147483629))) (eC (.int 16807))) (eOp mulD (eC (.int 104729)) (eVar 1))) (eC (.int 11))) aNil)) (eC (.int 2147483647)))) (sSeq (sIf (tB' (eOp ltD (eVar 3) (eOp powD (eC (.int 10)) (eC (.int 18))))) (sSet 3 (eC (.int 0))) sNil) (sRet (eLstM (aCons (eVar 3) (aCons (eVar 4) aNil)))))))))
def d_source : List D → M D := fnD 5 b_source
def b_draw : DEnv → M Out := (sSeq (sIf (tB' (eOp gtD (eOp ixD (eVar 0) (eC (.int 0))) (eC (.int 0)))) (sSeq (sSet 2 (eOp modD (eCallB intD (aCons (eOp ixD (eVar 0) (eC (.int 0))) aNil)) (eVar 1))) (sSeq (sSetIx (eVar 0) (eC (.int 0)) (eOp fdvD (eOp ixD (eVar 0) (eC (.int 0))) (eVar 1))) (sRet (eVar 2)))) sNil) (sSeq (sSetIx (eVar 0) (eC (.int 1)) (eOp modD (eCallB intD (aCons (eOp addD (eOp mulD (eOp ixD (eVar 0) (eC (.int 1))) (eC (.int 48271))) (eC (.int 11))) aNil)) (eC (.int 2147483647)))) (sRet (eOp modD (eCallB intD (aCons (eOp fdvD (eOp modD (eCallB intD (aCons (eOp mulD (eOp ixD (eVar 0) (eC (.int 1))) (eOp ixD (eVar 0) (eC (.int 1)))) aNil)) (eC (.int 2147483629))) (eC (.int 64))) aNil)) (eVar 1)))))
def d_draw : List D → M D := fnD 3 b_draw
def b_pick : DEnv → M Out := (sRet (eOp ixD (eVar 1) (eCallB (callN 2 d_draw) (aCons (eVar 0) (aCons (eCallB lenD (aCons (eVar 1) aNil)) aNil)))))
def d_pick : List D → M D := fnD 2 b_pick
def b_form : DEnv → M Out := (sRet (eCallB (callN 2 d_pick) (aCons (eVar 0) (aCons (eLst (aCons (eTup (aCons (eC (.int 2)) (aCons (eC (.int 1)) aNil))) (aCons (eTup (aCons (eC (.int 2)) (aCons (eC (.int 2)) aNil))) (aCons (eTup (aCons (eC (.int 2)) (aCons (eC (.int 3)) aNil))) (aCons (eTup (aCons (eC (.int 2)) (aCons (eC (.int 4)) aNil))) (aCons (eTup (aCons (eC (.int 3)) (aCons (eC (.int 1)) aNil))) (aCons (eTup (aCons (eC (.int 3)) (aCons (eC (.int 2)) aNil))) (aCons (eTup (aCons (eC (.int 3)) (aCons (eC (.int 3)) aNil))) (aCons (eTup (aCons (eC (.int 5)) (aCons (eC (.int 2)) aNil))) (aCons (eTup (aCons (eC (.int 7)) (aCons (eC (.int 2)) aNil))) aNil)))))))))) aNil))))
def d_form : List D → M D := fnD 1 b_form
def c_factors_1 : DEnv → M D := (eComp (iRg1 (aCons (eVar 2) aNil)) (gNm 3) tYesD (eCallB (callN 2 d_draw) (aCons (eVar 0) (aCons (eVar 1) aNil))) [3])
def b_factors : DEnv → M Out := (sRet (eCallB tupleD (aCons c_factors_1 aNil)))
def d_factors : List D → M D := fnD 4 b_factors
def b_Sum_prime : DEnv → M Out := (sRet (eUn (attrD [(0, .slot 0)]) (eVar 0)))
def d_Sum_prime : List D → M D := fnD 1 b_Sum_prime
def b_Sum_size : DEnv → M Out := (sRet (eCallB lenD (aCons (eUn (attrD [(0, .slot 1)]) (eVar 0)) aNil)))
def d_Sum_size : List D → M D := fnD 1 b_Sum_size
def b_is_sum : DEnv → M Out := (sRet (eAnd (eIsi [0] (.cls 0) (eVar 0)) (eAnd (eOp eqD (eUn (attrD [(0, .prop d_Sum_prime)]) (eVar 0)) (eVar 1)) (eOp eqD (eUn (attrD [(0, .prop d_Sum_size)]) (eVar 0)) (eVar 2)))))
def d_is_sum : List D → M D := fnD 3 b_is_sum
def b_Sum_require : DEnv → M Out := (sIf (tNotD (tB' (eCallB (callN 3 d_is_sum) (aCons (eVar 1) (aCons (eUn (attrD [(0, .slot 0)]) (eVar 0)) (aCons (eCallB lenD (aCons (eUn (attrD [(0, .slot 1)]) (eVar 0)) aNil)) aNil)))))) sBad sNil)
def d_Sum_require : List D → M D := fnD 2 b_Sum_require
def c_added_1 : DEnv → M D := (eComp (iZip (aCons (eVar 0) (aCons (eVar 1) aNil))) (gTp 2 (gsCons (gNm 4) (gsCons (gNm 5) gsNil))) tYesD (eOp modD (eOp addD (eVar 4) (eOp mulD (eVar 2) (eVar 5))) (eVar 3)) [4, 5])
def b_added : DEnv → M Out := (sRet (eCallB tupleD (aCons c_added_1 aNil)))
def d_added : List D → M D := fnD 6 b_added
def b_is_integer : DEnv → M Out := (sRet (eAnd (eIsi [0] .int (eVar 0)) (eNot (eIsi [0] .bool (eVar 0)))))
def d_is_integer : List D → M D := fnD 1 b_is_integer
def b_is_prime : DEnv → M Out := (sRet (eAnd (eCallB (callN 1 d_is_integer) (aCons (eVar 0) aNil)) (eOp (inD false) (eVar 0) (eC (.tup (([2, 3, 5, 7] : List Int).map .int))))))
def d_is_prime : List D → M D := fnD 1 b_is_prime
def b_is_between : DEnv → M Out := (sRet (eAnd (eIsi [0] .int (eVar 0)) (eAnd (eNot (eIsi [0] .bool (eVar 0))) (eChain leD leD (eVar 1) (eVar 0) (eVar 2)))))
def d_is_between : List D → M D := fnD 3 b_is_between
def lb_power_1 : DEnv → M Out := (sSet 2 (eOp mulD (eVar 2) (eVar 0)))
def l_power_1 : DEnv → M Out := (sFor (iRg1 (aCons (eVar 1) aNil)) (gNm 3) lb_power_1)
def b_power : DEnv → M Out := (sSeq (sSet 2 (eC (.int 1))) (sSeq l_power_1 (sRet (eVar 2))))
def d_power : List D → M D := fnD 4 b_power
def b_is_size : DEnv → M Out := (sRet (eAnd (eCallB (callN 1 d_is_prime) (aCons (eVar 0) aNil)) (eAnd (eCallB (callN 3 d_is_between) (aCons (eVar 1) (aCons (eC (.int 1)) (aCons (eC (.int 6)) aNil)))) (eOp leD (eCallB (callN 2 d_power) (aCons (eVar 0) (aCons (eVar 1) aNil))) (eC (.int 4096))))))
def d_is_size : List D → M D := fnD 2 b_is_size
def c_is_data_1 : DEnv → M D := (eComp (iSeqD (eVar 2)) (gNm 3) tYesD (eCallB (callN 3 d_is_between) (aCons (eVar 3) (aCons (eC (.int 0)) (aCons (eOp subD (eVar 0) (eC (.int 1))) aNil)))) [3])
def b_is_data : DEnv → M Out := (sSeq (sIf (tOrD (tNotD (tB' (eCallB (callN 2 d_is_size) (aCons (eVar 0) (aCons (eVar 1) aNil))))) (tOrD (tNotD (tB' (eIsi [0] .seq (eVar 2)))) (tB' (eOp neD (eCallB lenD (aCons (eVar 2) aNil)) (eVar 1))))) (sRet (eC (.bl false))) sNil) (sRet (eCallB allD (aCons c_is_data_1 aNil))))
def d_is_data : List D → M D := fnD 4 b_is_data
def b_Sum_init : DEnv → M Out := (sSeq (sIf (tNotD (tB' (eCallB (callN 1 d_is_prime) (aCons (eVar 1) aNil)))) sBad sNil) (sSeq (sIf (tOrD (tNotD (tB' (eIsi [0] .seq (eVar 2)))) (tNotD (tB' (eCallB (callN 3 d_is_data) (aCons (eVar 1) (aCons (eCallB lenD (aCons (eVar 2) aNil)) (aCons (eVar 2) aNil))))))) sBad sNil) (sSeq (sAttr [(0, 0)] (eVar 0) (eVar 1)) (sAttr [(0, 1)] (eVar 0) (eCallB tupleD (aCons (eVar 2) aNil))))))
def d_Sum_init : List D → M D := fnD 3 b_Sum_init
def b_Sum_add : DEnv → M Out := (sSeq (sExpr (eMeth [(0, 2, d_Sum_require)] (eVar 0) (aCons (eVar 1) aNil))) (sRet (eCallB (makeD 0 3 d_Sum_init) (aCons (eUn (attrD [(0, .slot 0)]) (eVar 0)) (aCons (eCallB (callN 4 d_added) (aCons (eUn (attrD [(0, .slot 1)]) (eVar 0)) (aCons (eUn (attrD [(0, .slot 1)]) (eVar 1)) (aCons (eC (.int 1)) (aCons (eUn (attrD [(0, .slot 0)]) (eVar 0)) aNil))))) aNil)))))
def d_Sum_add : List D → M D := fnD 2 b_Sum_add
def b_Sum_sub : DEnv → M Out := (sSeq (sExpr (eMeth [(0, 2, d_Sum_require)] (eVar 0) (aCons (eVar 1) aNil))) (sRet (eCallB (makeD 0 3 d_Sum_init) (aCons (eUn (attrD [(0, .slot 0)]) (eVar 0)) (aCons (eCallB (callN 4 d_added) (aCons (eUn (attrD [(0, .slot 1)]) (eVar 0)) (aCons (eUn (attrD [(0, .slot 1)]) (eVar 1)) (aCons (eUn negD (eC (.int 1))) (aCons (eUn (attrD [(0, .slot 0)]) (eVar 0)) aNil))))) aNil)))))
def d_Sum_sub : List D → M D := fnD 2 b_Sum_sub
def c_scaled_1 : DEnv → M D := (eComp (iSeqD (eVar 0)) (gNm 3) tYesD (eOp modD (eOp mulD (eVar 3) (eVar 1)) (eVar 2)) [3])
def b_scaled : DEnv → M Out := (sRet (eCallB tupleD (aCons c_scaled_1 aNil)))
def d_scaled : List D → M D := fnD 4 b_scaled
def b_Sum_mul : DEnv → M Out := (sSeq (sIf (tNotD (tB' (eCallB (callN 1 d_is_integer) (aCons (eVar 1) aNil)))) sBad sNil) (sRet (eCallB (makeD 0 3 d_Sum_init) (aCons (eUn (attrD [(0, .slot 0)]) (eVar 0)) (aCons (eCallB (callN 3 d_scaled) (aCons (eUn (attrD [(0, .slot 1)]) (eVar 0)) (aCons (eVar 1) (aCons (eUn (attrD [(0, .slot 0)]) (eVar 0)) aNil)))) aNil)))))
def d_Sum_mul : List D → M D := fnD 2 b_Sum_mul
def b_Sum_factors : DEnv → M Out := (sRet (eUn (attrD [(0, .slot 1)]) (eVar 0)))
def d_Sum_factors : List D → M D := fnD 1 b_Sum_factors
def b_Sum_is_zero : DEnv → M Out := (sRet (eNot (eCallB anyD (aCons (eUn (attrD [(0, .slot 1)]) (eVar 0)) aNil))))
def d_Sum_is_zero : List D → M D := fnD 1 b_Sum_is_zero
def c_all_data_1 : DEnv → M D := (eComp (iRg1 (aCons (eVar 0) aNil)) (gNm 6) tYesD (eOp addD (eVar 5) (eTup (aCons (eVar 6) aNil))) [6])
def lb_all_data_1 : DEnv → M Out := (sSet 4 (eOp addD (eVar 4) c_all_data_1))
def l_all_data_1 : DEnv → M Out := (sFor (iSeqD (eVar 2)) (gNm 5) lb_all_data_1)
def lb_all_data_2 : DEnv → M Out := (sSeq (sSet 4 (eLst aNil)) (sSeq l_all_data_1 (sSet 2 (eVar 4))))
def l_all_data_2 : DEnv → M Out := (sFor (iRg1 (aCons (eVar 1) aNil)) (gNm 3) lb_all_data_2)
def b_all_data : DEnv → M Out := (sSeq (sSet 2 (eLst (aCons (eTup aNil) aNil))) (sSeq l_all_data_2 (sRet (eVar 2))))
def d_all_data : List D → M D := fnD 7 b_all_data
def c_value_of_1 : DEnv → M D := (eComp (iZip (aCons (eVar 0) (aCons (eVar 1) aNil))) (gTp 2 (gsCons (gNm 3) (gsCons (gNm 4) gsNil))) tYesD (eOp mulD (eVar 3) (eVar 4)) [3, 4])
def b_value_of : DEnv → M Out := (sRet (eOp modD (eCallB sumD (aCons c_value_of_1 aNil)) (eVar 2)))
def d_value_of : List D → M D := fnD 5 b_value_of
def b_Sum_call : DEnv → M Out := (sSeq (sIf (tNotD (tB' (eCallB (callN 3 d_is_data) (aCons (eUn (attrD [(0, .slot 0)]) (eVar 0)) (aCons (eCallB lenD (aCons (eUn (attrD [(0, .slot 1)]) (eVar 0)) aNil)) (aCons (eVar 1) aNil)))))) sBad sNil) (sRet (eCallB (callN 3 d_value_of) (aCons (eUn (attrD [(0, .slot 1)]) (eVar 0)) (aCons (eVar 1) (aCons (eUn (attrD [(0, .slot 0)]) (eVar 0)) aNil))))))
def d_Sum_call : List D → M D := fnD 2 b_Sum_call
def c_value_1 : DEnv → M D := (eComp (iZip (aCons (eVar 0) (aCons (eVar 1) aNil))) (gTp 2 (gsCons (gNm 3) (gsCons (gNm 4) gsNil))) tYesD (eOp mulD (eVar 3) (eVar 4)) [3, 4])
def b_value : DEnv → M Out := (sRet (eOp modD (eCallB intD (aCons (eCallB sumD (aCons c_value_1 aNil)) aNil)) (eVar 2)))
def d_value : List D → M D := fnD 5 b_value
def c_sum_right_1 : DEnv → M D := (eComp (iSeqD (eCallB (callN 2 d_all_data) (aCons (eVar 2) (aCons (eCallB lenD (aCons (eVar 1) aNil)) aNil)))) (gNm 4) tYesD (eOp eqD (eCallO 0 2 d_Sum_call (eVar 0) (aCons (eVar 4) aNil)) (eCallB (callN 3 d_value) (aCons (eVar 1) (aCons (eVar 4) (aCons (eVar 2) aNil))))) [4])
def b_sum_right : DEnv → M Out := (sSeq (sSet 3 (eLst (aCons (eUn (attrD [(0, .prop d_Sum_prime)]) (eVar 0)) (aCons (eUn (attrD [(0, .prop d_Sum_factors)]) (eVar 0)) (aCons (eUn (attrD [(0, .prop d_Sum_size)]) (eVar 0)) (aCons (eUn (attrD [(0, .prop d_Sum_is_zero)]) (eVar 0)) aNil)))))) (sSeq (sIf (tB' (eOp neD (eVar 3) (eLst (aCons (eVar 2) (aCons (eCallB tupleD (aCons (eVar 1) aNil)) (aCons (eCallB lenD (aCons (eVar 1) aNil)) (aCons (eOp eqD (eCallB tupleD (aCons (eVar 1) aNil)) (eOp mulD (eTup (aCons (eC (.int 0)) aNil)) (eCallB lenD (aCons (eVar 1) aNil)))) aNil))))))) (sRet (eC (.bl false))) sNil) (sRet (eCallB allD (aCons c_sum_right_1 aNil)))))
def d_sum_right : List D → M D := fnD 5 b_sum_right
def b_Sum_neg : DEnv → M Out := (sRet (eCallB (makeD 0 3 d_Sum_init) (aCons (eUn (attrD [(0, .slot 0)]) (eVar 0)) (aCons (eCallB (callN 3 d_scaled) (aCons (eUn (attrD [(0, .slot 1)]) (eVar 0)) (aCons (eUn negD (eC (.int 1))) (aCons (eUn (attrD [(0, .slot 0)]) (eVar 0)) aNil)))) aNil))))
def d_Sum_neg : List D → M D := fnD 1 b_Sum_neg
def b_Sum_eq : DEnv → M Out := (sRet (eAnd (eIsi [0] (.cls 0) (eVar 1)) (eAnd (eOp eqD (eUn (attrD [(0, .slot 0)]) (eVar 0)) (eUn (attrD [(0, .slot 0)]) (eVar 1))) (eOp eqD (eUn (attrD [(0, .slot 1)]) (eVar 0)) (eUn (attrD [(0, .slot 1)]) (eVar 1))))))
def d_Sum_eq : List D → M D := fnD 2 b_Sum_eq
def c_pair_right_1 : DEnv → M D := (eComp (iZip (aCons (eVar 1) (aCons (eVar 2) aNil))) (gTp 2 (gsCons (gNm 9) (gsCons (gNm 10) gsNil))) tYesD (eOp modD (eCallB intD (aCons (eOp (ownB [(0, 2, d_Sum_add)] addD) (eVar 9) (eVar 10)) aNil)) (eVar 0)) [9, 10])
def c_pair_right_2 : DEnv → M D := (eComp (iZip (aCons (eVar 1) (aCons (eVar 2) aNil))) (gTp 2 (gsCons (gNm 9) (gsCons (gNm 10) gsNil))) tYesD (eOp modD (eCallB intD (aCons (eOp (ownB [(0, 2, d_Sum_sub)] subD) (eVar 9) (eVar 10)) aNil)) (eVar 0)) [9, 10])
def c_pair_right_3 : DEnv → M D := (eComp (iSeqD (eVar 1)) (gNm 9) tYesD (eOp modD (eCallB intD (aCons (eOp (ownB [(0, 2, d_Sum_mul)] mulD) (eVar 9) (eVar 3)) aNil)) (eVar 0)) [9])
def c_pair_right_4 : DEnv → M D := (eComp (iSeqD (eVar 1)) (gNm 9) tYesD (eOp modD (eCallB intD (aCons (eOp (ownB [(0, 2, d_Sum_sub)] subD) (eC (.int 0)) (eVar 9)) aNil)) (eVar 0)) [9])
def b_pair_right : DEnv → M Out := (sSeq (sParA 7 8 (aCons (eCallB (makeD 0 3 d_Sum_init) (aCons (eVar 0) (aCons (eVar 1) aNil))) (aCons (eCallB (makeD 0 3 d_Sum_init) (aCons (eVar 0) (aCons (eCallB listD (aCons (eVar 2) aNil)) aNil))) aNil))) (sSeq (sSet 4 c_pair_right_1) (sSeq (sSet 5 c_pair_right_2) (sSeq (sSet 6 c_pair_right_3) (sSeq (sIf (tOrD (tNotD (tB' (eCallB (callN 3 d_sum_right) (aCons (eVar 7) (aCons (eVar 1) (aCons (eVar 0) aNil)))))) (tNotD (tB' (eCallB (callN 3 d_sum_right) (aCons (eOp (ownB [(0, 2, d_Sum_add)] addD) (eVar 7) (eVar 8)) (aCons (eVar 4) (aCons (eVar 0) aNil))))))) (sRet (eC (.bl false))) sNil) (sSeq (sIf (tOrD (tNotD (tB' (eCallB (callN 3 d_sum_right) (aCons (eOp (ownB [(0, 2, d_Sum_sub)] subD) (eVar 7) (eVar 8)) (aCons (eVar 5) (aCons (eVar 0) aNil)))))) (tNotD (tB' (eCallB (callN 3 d_sum_right) (aCons (eOp (ownB [(0, 2, d_Sum_mul)] mulD) (eVar 7) (eVar 3)) (aCons (eVar 6) (aCons (eVar 0) aNil))))))) (sRet (eC (.bl false))) sNil) (sSeq (sIf (tNotD (tB' (eCallB (callN 3 d_sum_right) (aCons (eUn (ownU [(0, 1, d_Sum_neg)] negD) (eVar 7)) (aCons c_pair_right_4 (aCons (eVar 0) aNil)))))) (sRet (eC (.bl false))) sNil) (sRet (eAnd (eOp (ownE [0] [(0, 2, d_Sum_eq)] false eqD) (eOp (ownE [0] [(0, 2, d_Sum_eq)] false eqD) (eVar 7) (eVar 8)) (eOp (ownE [0] [(0, 2, d_Sum_eq)] false eqD) (eVar 1) (eVar 2))) (eAnd (eOp (ownE [0] [(0, 2, d_Sum_eq)] false eqD) (eVar 7) (eCallB (makeD 0 3 d_Sum_init) (aCons (eVar 0) (aCons (eVar 1) aNil)))) (eOp (isD false) (eOp (ownE [0] [(0, 2, d_Sum_eq)] false eqD) (eVar 7) (eVar 1)) (eC (.bl false)))))))))))))
def d_pair_right : List D → M D := fnD 11 b_pair_right
def c_Sum_unit_1 : DEnv → M D := (eComp (iRg1 (aCons (eVar 2) aNil)) (gNm 4) tYesD (eIf (tB' (eOp eqD (eVar 4) (eVar 3))) (eC (.int 1)) (eC (.int 0))) [4])
def b_Sum_unit : DEnv → M Out := (sSeq (sIf (tNotD (tB' (eCallB (callN 1 d_is_prime) (aCons (eVar 1) aNil)))) sBad sNil) (sSeq (sIf (tNotD (tB' (eCallB (callN 2 d_is_size) (aCons (eVar 1) (aCons (eVar 2) aNil))))) sBad sNil) (sSeq (sIf (tNotD (tB' (eCallB (callN 3 d_is_between) (aCons (eVar 3) (aCons (eC (.int 0)) (aCons (eOp subD (eVar 2) (eC (.int 1))) aNil)))))) sBad sNil) (sRet (eMkV 0 3 d_Sum_init (eVar 0) (aCons (eVar 1) (aCons c_Sum_unit_1 aNil)))))))
def d_Sum_unit : List D → M D := fnD 5 b_Sum_unit
def c_law_1 : DEnv → M D := (eComp (iRg1 (aCons (eVar 6) aNil)) (gNm 10) tYesD (eCallB intD (aCons (eOp (ownE [0] [(0, 2, d_Sum_eq)] false eqD) (eVar 10) (eVar 4)) aNil)) [10])
def lb_law_1 : DEnv → M Out := (sSeq (sSet 9 (eCM 0 4 d_Sum_unit (aCons (eVar 5) (aCons (eVar 6) (aCons (eVar 4) aNil))))) (sIf (tB' (eOp (ownE [0] [(0, 2, d_Sum_eq)] true neD) (eVar 9) (eCallB (makeD 0 3 d_Sum_init) (aCons (eVar 5) (aCons c_law_1 aNil))))) (sRet (eC (.bl false))) sNil))
def l_law_1 : DEnv → M Out := (sFor (iRg1 (aCons (eVar 6) aNil)) (gNm 4) lb_law_1)
def lb_law_2 : DEnv → M Out := (sSeq (sSet 2 (eCallB (callN 2 d_source) (aCons (eVar 0) (aCons (eVar 1) aNil)))) (sSeq (sAsg (eCallB (callN 1 d_form) (aCons (eVar 2) aNil)) (gTp 2 (gsCons (gNm 5) (gsCons (gNm 6) gsNil)))) (sSeq (sParA 7 8 (aCons (eCallB (callN 3 d_factors) (aCons (eVar 2) (aCons (eVar 5) (aCons (eVar 6) aNil)))) (aCons (eCallB (callN 3 d_factors) (aCons (eVar 2) (aCons (eVar 5) (aCons (eVar 6) aNil)))) aNil))) (sSeq (sSet 3 (eOp ixD (eLst (aCons (eC (.int 0)) (aCons (eC (.int 1)) (aCons (eUn negD (eC (.int 1))) (aCons (eVar 5) (aCons (eOp (ownB [(0, 2, d_Sum_add)] addD) (eOp powD (eC (.int 10)) (eC (.int 20))) (eC (.int 3))) (aCons (eUn negD (eC (.int 17))) aNil))))))) (eCallB (callN 2 d_draw) (aCons (eVar 2) (aCons (eC (.int 6)) aNil))))) (sSeq (sIf (tOrD (tNotD (tB' (eCallB (callN 4 d_pair_right) (aCons (eVar 5) (aCons (eVar 7) (aCons (eVar 8) (aCons (eVar 3) aNil))))))) (tNotD (tB' (eCallB (callN 4 d_pair_right) (aCons (eVar 5) (aCons (eVar 7) (aCons (eVar 7) (aCons (eVar 3) aNil)))))))) (sRet (eC (.bl false))) sNil) (sSeq l_law_1 (sIf (tOrD (tB' (eOp (ownE [0] [(0, 2, d_Sum_eq)] false eqD) (eCallB (makeD 0 3 d_Sum_init) (aCons (eC (.int 2)) (aCons (eTup (aCons (eC (.int 1)) (aCons (eC (.int 0)) aNil))) aNil))) (eCallB (makeD 0 3 d_Sum_init) (aCons (eC (.int 3)) (aCons (eTup (aCons (eC (.int 1)) (aCons (eC (.int 0)) aNil))) aNil))))) (tB' (eOp (ownE [0] [(0, 2, d_Sum_eq)] false eqD) (eCallB (makeD 0 3 d_Sum_init) (aCons (eC (.int 3)) (aCons (eTup (aCons (eC (.int 1)) aNil)) aNil))) (eCallB (makeD 0 3 d_Sum_init) (aCons (eC (.int 3)) (aCons (eTup (aCons (eC (.int 1)) (aCons (eC (.int 0)) aNil))) aNil)))))) (sRet (eC (.bl false))) sNil)))))))
def l_law_2 : DEnv → M Out := (sFor (iRg1 (aCons (eCallB maxD (aCons (eC (.int 1)) (aCons (eCallB minD (aCons (eCallB lenD (aCons (eVar 0) aNil)) (aCons (eC (.int 20)) aNil))) aNil))) aNil)) (gNm 1) lb_law_2)
def b_law : DEnv → M Out := (sSeq l_law_2 (sRet (eC (.bl true))))
def d_law : List D → M D := fnD 11 b_law
/-! ### the script's cells -/
def SrcAt (m : Store) (n : Nat) : Prop := ∃ a s : Int, m[n]? = some (some (.lst [.int a, .int s]))
theorem set_at {m : Store} {n : Nat} {c : Cell} {x : Option (Option Cell)} (h : m[n]? = some (some c)) (y : Option Cell) : (m.set n y)[n]? = some y := by
  have := (List.getElem?_eq_some_iff.mp h).1
  simp [this]
theorem draw_ok {m : Store} {n : Nat} {k : Int} (h : SrcAt m n) (hk : 0 < k) (hk2 : k < 2 ^ 100) :
    ∃ r a s, d_draw [.loc n, .int k] m = .ok (.int r) (m.set n (some (.lst [.int a, .int s]))) ∧ 0 ≤ r ∧ r < k := by
  obtain ⟨a, s, h⟩ := h
  have hl := (List.getElem?_eq_some_iff.mp h).1
  have sq : seqD (.loc n) m = .ok [.int a, .int s] m := seq_loc h
  have i0 : ixD (.loc n) (.int 0) m = .ok (.int a) m := ix_seq sq (by decide) rfl
  have i1 : ixD (.loc n) (.int 1) m = .ok (.int s) m := ix_seq sq (by decide) rfl
  by_cases ha : 0 < a
  · refine ⟨a % k, a / k, s, fn_any ?_ (by simp), Int.emod_nonneg _ (by omega), Int.emod_lt_of_pos _ hk⟩
    simp [b_draw, startD, i0, ha, mod_int m hk, fdv_int m hk hk2, sSetIx, setIx, h, ixN]
  · have hs : 0 ≤ (s * 48271 + 11) % 2147483647 ∧ (s * 48271 + 11) % 2147483647 < 2147483647 := ⟨Int.emod_nonneg _ (by decide), Int.emod_lt_of_pos _ (by decide)⟩
    generalize hs' : (s * 48271 + 11) % 2147483647 = s' at hs
    have h2 : (m.set n (some (.lst [.int a, .int s'])))[n]? = some (some (.lst [.int a, .int s'])) := by simp [hl]
    have j1 : ixD (.loc n) (.int 1) (m.set n (some (.lst [.int a, .int s']))) = .ok (.int s') (m.set n (some (.lst [.int a, .int s']))) := ix_seq (seq_loc h2) (by decide) rfl
    refine ⟨s' * s' % 2147483629 / 64 % k, a, s', fn_any ?_ (by simp), Int.emod_nonneg _ (by omega), Int.emod_lt_of_pos _ hk⟩
    have c1 : CM s 48271 := .inr ⟨by decide, by decide⟩
    have c2 : CM s' s' := .inl ⟨by omega, by omega⟩
    simp [b_draw, startD, i0, i1, ha, mod_int m (show (0 : Int) < 2147483647 by decide), sSetIx, setIx, h, ixN, mul_int _ c1, hs', j1, mul_int _ c2, mod_int _ (show (0 : Int) < 2147483629 by decide), fdv_int _ (show (0 : Int) < 64 by decide) (by decide), mod_int _ hk]
theorem source_ok {m : Store} {ns : List Int} {t : Nat} : ∃ a s, d_source [.lst (ils ns), .int t] m = .ok (.loc m.length) (m ++ [some (.lst [.int a, .int s])]) := by
  have c1 : ∀ x, CM x 16807 := fun x => .inr ⟨by decide, by decide⟩
  have c2 : CM 104729 (t : Int) := .inl ⟨by decide, by decide⟩
  have c3 : CPw 10 18 := ⟨by decide, by decide, by decide⟩
  have p1 : (0 : Int) < 2147483629 := by decide
  have p2 : (0 : Int) < 2147483647 := by decide
  by_cases ht : t < ns.length
  · have e : ixD (.lst (ils ns)) (.int t) m = .ok (.int ns[t]) m := ix_seq rfl (by omega) (by simp [ils, ht])
    generalize hq : (if ns[t] < -1 - ns[t] then -1 - ns[t] else ns[t]) = q
    by_cases hc : q < 1000000000000000000
    · refine ⟨0, (q % 2147483629 * 16807 + 104729 * t + 11) % 2147483647, fn_new ?_⟩
      simp [b_source, startD, ht, e, hq, mod_int _ p1, mul_int _ (c1 _), mul_int _ c2, mod_int _ p2, pow_int _ c3, hc, newM]

    · refine ⟨q, (q % 2147483629 * 16807 + 104729 * t + 11) % 2147483647, fn_new ?_⟩
      simp [b_source, startD, ht, e, hq, mod_int _ p1, mul_int _ (c1 _), mul_int _ c2, mod_int _ p2, pow_int _ c3, hc, newM]

  · refine ⟨0, (0 % 2147483629 * 16807 + 104729 * t + 11) % 2147483647, fn_new ?_⟩
    simp [b_source, startD, ht, mod_int _ p1, mul_int _ (c1 _), mul_int _ c2, mod_int _ p2, pow_int _ c3, newM]

theorem pick_ok {m : Store} {n : Nat} {ds : List D} (h : SrcAt m n) (h0 : 0 < ds.length) (h1 : ds.length < 100000) :
    ∃ d a s, d_pick [.loc n, .lst ds] m = .ok d (m.set n (some (.lst [.int a, .int s]))) ∧ d ∈ ds := by
  obtain ⟨r, a, s, e, r0, r1⟩ := draw_ok (k := (ds.length : Int)) h (by omega) (by omega)
  have hr : r.toNat < ds.length := by omega
  refine ⟨ds[r.toNat], a, s, fn_any ?_ (by simp), List.getElem_mem _⟩
  have e2 : ixD (.lst ds) (.int r) (m.set n (some (.lst [.int a, .int s]))) = .ok ds[r.toNat] (m.set n (some (.lst [.int a, .int s]))) := ix_seq rfl r0 (by simp [hr])
  simp [b_pick, startD, e, e2]
theorem src_set {m : Store} {n : Nat} {a s : Int} (h : SrcAt m n) : SrcAt (m.set n (some (.lst [.int a, .int s]))) n := by
  obtain ⟨a', s', h⟩ := h
  have hl := (List.getElem?_eq_some_iff.mp h).1
  exact ⟨a, s, by simp [hl]⟩
theorem src_new (m : Store) (a s : Int) : SrcAt (m ++ [some (.lst [.int a, .int s])]) m.length := ⟨a, s, by simp⟩
/-! ### the program's defs -/
abbrev OkP (p : Int) : Prop := p = 2 ∨ p = 3 ∨ p = 5 ∨ p = 7
structure Fm (p : Int) (s : Nat) : Prop where
  okp : OkP p
  s1 : 1 ≤ s
  s6 : s ≤ 6
  pw : p ^ s ≤ 4096
theorem is_integer_ok (i : Int) (m : Store) : d_is_integer [.int i] m = .ok (.bl true) m := by
  refine fn_pure ?_
  simp [b_is_integer, startD, isK]
theorem is_prime_ok {p : Int} (h : OkP p) (m : Store) : d_is_prime [.int p] m = .ok (.bl true) m := by
  refine fn_pure ?_
  rcases h with rfl | rfl | rfl | rfl <;> simp [b_is_prime, startD, is_integer_ok, inD, flatD, eqFl]
theorem is_between_ok (v a b : Int) (m : Store) : d_is_between [.int v, .int a, .int b] m = .ok (.bl (decide (a ≤ v) && decide (v ≤ b))) m := by
  refine fn_pure ?_
  by_cases h : a ≤ v <;> simp [b_is_between, startD, isK, h]
theorem power_ok {p : Int} (h : OkP p) (s : Nat) (hs : s ≤ 6) (m : Store) : d_power [.int p, .int s] m = .ok (.int (p ^ s)) m := by
  refine fn_pure ?_
  have hr : iRg1 (aCons (eVar 1) aNil) [some (D.int p), some (D.int s), some (D.int 1), none] m = .ok ⟨rngI 0 s, []⟩ m := iRg1_nat (by omega) (by simp)
  obtain ⟨e', m', h1, x, rfl, rfl⟩ := forL_inv (src := rngI 0 s) (g := gNm 3) (b := lb_power_1) (fun i e m' => ∃ x, e = [some (D.int p), some (D.int s), some (D.int (p ^ i)), x] ∧ m' = m) (rngI 0 s) 0 [some (D.int p), some (D.int s), some (D.int 1), none] m ⟨none, by simp, rfl⟩ (by
    rintro j d e m' hj ⟨x, rfl, rfl⟩
    refine ⟨_, _, [some (D.int p), some (D.int s), some (D.int (p ^ (0 + j + 1))), some d], m', rfl, .inl ?_, some d, rfl, rfl⟩
    have c : CM (p ^ j) p := cm_r (by rcases h with h | h | h | h <;> omega) (by rcases h with h | h | h | h <;> omega)
    simp [lb_power_1, mul_int _ c, Int.pow_succ])
  have hlen : 0 + (rngI 0 s).length = s := by simp [rngI]
  rw [hlen] at h1
  have h2 : b_power (startD 4 [.int p, .int s]) m' = (forL ⟨rngI 0 s, []⟩ (gNm 3) lb_power_1 (rngI 0 s) [some (D.int p), some (D.int s), some (D.int 1), none] m').thn fun o m1 => andThen o (sRet (eVar 2)) m1 := by
    simp [b_power, l_power_1, startD, hr]
  rw [h2, h1]
  simp
theorem is_size_ok {p : Int} {s : Nat} (h : Fm p s) (m : Store) : d_is_size [.int p, .int s] m = .ok (.bl true) m := by
  refine fn_pure ?_
  have h1 : (1 : Int) ≤ s := by have := h.s1; omega
  have h2 : (s : Int) ≤ 6 := by have := h.s6; omega
  simp [b_is_size, startD, is_prime_ok h.okp, is_between_ok, h1, h2, power_ok h.okp s h.s6, h.pw]
theorem is_data_ok {p : Int} {ns : List Int} (h : Fm p ns.length) (hn : ∀ x ∈ ns, 0 ≤ x ∧ x < p) (b : Bool) (m : Store) : d_is_data [.int p, .int ns.length, Sq b ns] m = .ok (.bl true) m := by
  refine fn_pure ?_
  have hc : ∀ e, (e : DEnv) = startD 4 [.int p, .int ns.length, Sq b ns] → c_is_data_1 e m = .ok (.lst (ns.map fun _ => D.bl true)) m := by
    rintro e rfl
    refine eComp_on (h := D.int) (by simp [startD, ils]) (by have := h.s6; omega) fun x hx => ⟨_, rfl, ?_⟩
    obtain ⟨q1, q2⟩ := hn x hx
    have q3 : x ≤ p - 1 := by omega
    simp [startD, wipeD, is_between_ok, q1, q3]
  have hc := hc _ rfl
  have e2 : (ns.map fun _ => D.bl true) = (ns.map fun _ => true).map D.bl := by simp
  have hall := all_bls (ns.map fun _ => true) m
  rw [← e2] at hall
  simp only [startD] at hc
  simp at hc hall
  simp [b_is_data, startD, is_size_ok h, hc, hall]
def Sm (p : Int) (ns : List Int) : D := .obj 0 [.int p, .tup (ils ns)]
theorem init_ok {p : Int} {ns : List Int} (h : Fm p ns.length) (hn : ∀ x ∈ ns, 0 ≤ x ∧ x < p) (b : Bool) (m : Store) : makeD 0 3 d_Sum_init [.int p, Sq b ns] m = .ok (Sm p ns) m := by
  refine make_ok rfl ?_ (by simp [D.undL, D.und]; exact undL_ints _ ns)
  refine fn_anyN (e := [some (.loc m.length), some (.int p), some (Sq b ns)]) ?_ (by simp)
  have hl : ns.length ≤ 100000 := by have := h.s6; omega
  simp [b_Sum_init, startD, is_prime_ok h.okp, is_data_ok h hn, sAttr, setAtT, clsD, setAt, putD, tuple_Sq b ns _ hl]
section sums
variable {p : Int} {ns ms : List Int}
theorem at0 (m : Store) : attrD [(0, .slot 0)] (Sm p ns) m = .ok (.int p) m := rfl
theorem at1 (m : Store) : attrD [(0, .slot 1)] (Sm p ns) m = .ok (.tup (ils ns)) m := rfl
theorem prime_ok (m : Store) : d_Sum_prime [Sm p ns] m = .ok (.int p) m := fn_pure (by simp [b_Sum_prime, startD, at0])
theorem size_ok (m : Store) : d_Sum_size [Sm p ns] m = .ok (.int ns.length) m := fn_pure (by simp [b_Sum_size, startD, at1])
theorem factors_ok (m : Store) : d_Sum_factors [Sm p ns] m = .ok (.tup (ils ns)) m := fn_pure (by simp [b_Sum_factors, startD, at1])
def isZ (ns : List Int) : Bool := !(ns.map (· != 0)).any id
theorem is_zero_ok (m : Store) : d_Sum_is_zero [Sm p ns] m = .ok (.bl (isZ ns)) m := fn_pure (by
  have h := any_tup ns m
  generalize hz : (ns.map (· != 0)).any id = z at h
  simp [b_Sum_is_zero, startD, at1, h, isZ, hz])
theorem prop_ap {den : List D → M D} {r : D} {m : Store} (h : den [Sm p ns] m = .ok r m) : attrD [(0, .prop den)] (Sm p ns) m = .ok r m := by
  show noX (den [Sm p ns]) m = _
  simp [noX, h]
theorem is_sum_ok (m : Store) (e : ns.length = ms.length) : d_is_sum [Sm p ns, .int p, .int ms.length] m = .ok (.bl true) m := by
  refine fn_pure ?_
  have h1 : isiD [0] (.cls 0) (Sm p ns) m = .ok (.bl true) m := rfl
  simp [b_is_sum, startD, h1, prop_ap (prime_ok m), prop_ap (size_ok m), e]
theorem require_ok (m : Store) (e : ns.length = ms.length) : d_Sum_require [Sm p ms, Sm p ns] m = .ok .non m := by
  refine fn_pureN (e := startD 2 [Sm p ms, Sm p ns]) ?_
  simp [b_Sum_require, startD, at0, at1, is_sum_ok m e]
def addL (p f : Int) (a b : List Int) : List Int := (a.zip b).map fun q => (q.1 + f * q.2) % p
def sclL (p f : Int) (a : List Int) : List Int := a.map fun x => x * f % p
def valL (p : Int) (a b : List Int) : Int := ((a.zip b).map fun q => q.1 * q.2).sum % p
theorem addL_len {f : Int} {a b : List Int} (e : a.length = b.length) : (addL p f a b).length = a.length := by simp [addL, e]
theorem sclL_len {f : Int} {a : List Int} : (sclL p f a).length = a.length := by simp [sclL]
theorem okp_pos (h : OkP p) : 0 < p := by rcases h with h | h | h | h <;> omega
theorem okp_le (h : OkP p) : p ≤ 7 := by rcases h with h | h | h | h <;> omega
theorem addL_in {f : Int} {a b : List Int} (h : OkP p) : ∀ x ∈ addL p f a b, 0 ≤ x ∧ x < p := by
  intro x hx
  simp only [addL, List.mem_map] at hx
  obtain ⟨q, _, rfl⟩ := hx
  exact ⟨Int.emod_nonneg _ (by have := okp_pos h; omega), Int.emod_lt_of_pos _ (okp_pos h)⟩
theorem sclL_in {f : Int} {a : List Int} (h : OkP p) : ∀ x ∈ sclL p f a, 0 ≤ x ∧ x < p := by
  intro x hx
  simp only [sclL, List.mem_map] at hx
  obtain ⟨q, _, rfl⟩ := hx
  exact ⟨Int.emod_nonneg _ (by have := okp_pos h; omega), Int.emod_lt_of_pos _ (okp_pos h)⟩
theorem added_ok {f : Int} {a b : List Int} (h : OkP p) (hf : -1000 ≤ f ∧ f ≤ 1000) (ha : a.length ≤ 1000) (m : Store) : d_added [.tup (ils a), .tup (ils b), .int f, .int p] m = .ok (.tup (ils (addL p f a b))) m := by
  refine fn_pure ?_
  have hc : ∀ e, (e : DEnv) = startD 6 [.tup (ils a), .tup (ils b), .int f, .int p] → c_added_1 e m = .ok (.lst ((a.zip b).map fun q => D.int ((q.1 + f * q.2) % p))) m := by
    rintro e rfl
    refine eComp_on (h := pr2) ?_ (by simp; omega) fun q hq => ⟨_, rfl, ?_⟩
    · rw [iZip_ap _ _ _ (x := .tup (ils a)) (y := .tup (ils b)) (m1 := m) (xs := ils a) (ys := ils b) (by simp [startD]) rfl rfl, zipT_ils]
    · simp [startD, wipeD, mul_int _ (cm_l (i := f) (j := q.2) (by omega) (by omega)), mod_int _ (okp_pos h)]
  have hc := hc _ rfl
  have hl : (a.zip b).length ≤ 100000 := by simp; omega
  have e2 : ((a.zip b).map fun q => D.int ((q.1 + f * q.2) % p)) = ils (addL p f a b) := by simp [addL, ils]
  rw [e2] at hc
  have hl2 : (addL p f a b).length ≤ 100000 := by simp [addL]; omega
  simp only [startD] at hc
  simp at hc
  simp [b_added, startD, hc, hl2]
theorem scaled_ok {f : Int} {a : List Int} (h : OkP p) (hn : ∀ x ∈ a, 0 ≤ x ∧ x < p) (ha : a.length ≤ 1000) (m : Store) : d_scaled [.tup (ils a), .int f, .int p] m = .ok (.tup (ils (sclL p f a))) m := by
  refine fn_pure ?_
  have hc : ∀ e, (e : DEnv) = startD 4 [.tup (ils a), .int f, .int p] → c_scaled_1 e m = .ok (.lst (a.map fun x => D.int (x * f % p))) m := by
    rintro e rfl
    refine eComp_on (h := D.int) (by simp [startD, ils]) (by omega) fun x hx => ⟨_, rfl, ?_⟩
    obtain ⟨q1, q2⟩ := hn x hx
    have := okp_le h
    simp [startD, wipeD, mul_int _ (cm_l (i := x) (j := f) (by omega) (by omega)), mod_int _ (okp_pos h)]
  have hc := hc _ rfl
  have e2 : (a.map fun x => D.int (x * f % p)) = ils (sclL p f a) := by simp [sclL, ils]
  rw [e2] at hc
  have hl2 : (sclL p f a).length ≤ 100000 := by simp [sclL]; omega
  simp only [startD] at hc
  simp at hc
  simp [b_scaled, startD, hc, hl2]
theorem value_of_ok {a d : List Int} (h : OkP p) (hn : ∀ x ∈ a, 0 ≤ x ∧ x < p) (ha : a.length ≤ 1000) (m : Store) : d_value_of [.tup (ils a), .tup (ils d), .int p] m = .ok (.int (valL p a d)) m := by
  refine fn_pure ?_
  have hc : ∀ e, (e : DEnv) = startD 5 [.tup (ils a), .tup (ils d), .int p] → c_value_of_1 e m = .ok (.lst ((a.zip d).map fun q => D.int (q.1 * q.2))) m := by
    rintro e rfl
    refine eComp_on (h := pr2) ?_ (by simp; omega) fun q hq => ⟨_, rfl, ?_⟩
    · rw [iZip_ap _ _ _ (x := .tup (ils a)) (y := .tup (ils d)) (m1 := m) (xs := ils a) (ys := ils d) (by simp [startD]) rfl rfl, zipT_ils]
    · obtain ⟨q1, q2⟩ := hn q.1 (List.of_mem_zip hq).1
      have := okp_le h
      simp [startD, wipeD, mul_int _ (cm_l (i := q.1) (j := q.2) (by omega) (by omega))]
  have hc := hc _ rfl
  have e2 : ((a.zip d).map fun q => D.int (q.1 * q.2)) = ils ((a.zip d).map fun q => q.1 * q.2) := by simp [ils]
  rw [e2] at hc
  have hs := sum_ints ((a.zip d).map fun q => q.1 * q.2) m
  simp only [startD] at hc
  simp at hc hs
  simp [b_value_of, startD, hc, hs, mod_int _ (okp_pos h), valL]
theorem value_ok {a d : List Int} (h : OkP p) (hn : ∀ x ∈ a, 0 ≤ x ∧ x < p) (ha : a.length ≤ 1000) (b : Bool) (m : Store) : d_value [Sq b a, .tup (ils d), .int p] m = .ok (.int (valL p a d)) m := by
  refine fn_pure ?_
  have hc : ∀ e, (e : DEnv) = startD 5 [Sq b a, .tup (ils d), .int p] → c_value_1 e m = .ok (.lst ((a.zip d).map fun q => D.int (q.1 * q.2))) m := by
    rintro e rfl
    refine eComp_on (h := pr2) ?_ (by simp; omega) fun q hq => ⟨_, rfl, ?_⟩
    · rw [iZip_ap _ _ _ (x := Sq b a) (y := .tup (ils d)) (m1 := m) (xs := ils a) (ys := ils d) (by simp [startD]) (by simp) rfl, zipT_ils]
    · obtain ⟨q1, q2⟩ := hn q.1 (List.of_mem_zip hq).1
      have := okp_le h
      simp [startD, wipeD, mul_int _ (cm_l (i := q.1) (j := q.2) (by omega) (by omega))]
  have hc := hc _ rfl
  have e2 : ((a.zip d).map fun q => D.int (q.1 * q.2)) = ils ((a.zip d).map fun q => q.1 * q.2) := by simp [ils]
  rw [e2] at hc
  have hs := sum_ints ((a.zip d).map fun q => q.1 * q.2) m
  simp only [startD] at hc
  simp at hc hs
  simp [b_value, startD, hc, hs, mod_int _ (okp_pos h), valL]
@[simp] theorem eMeth_ap (tab : MTab) (o : DEnv → M D) (as : DEnv → M (List D)) (e : DEnv) (m : Store) : eMeth tab o as e m = (o e m).thn fun x m1 => (clsM x m1).thn fun c m2 => (methOf tab c m2).thn fun q m3 => (as e m3).thn fun ds m4 => callN q.1 q.2 (x :: ds) m4 := by simp [eMeth]
@[simp] theorem clsM_Sm (m : Store) : clsM (Sm p ns) m = .ok 0 m := rfl
@[simp] theorem methOf_hd (c : Nat) (q : Nat × (List D → M D)) (tab : MTab) (m : Store) : methOf ((c, q) :: tab) c m = .ok q m := by simp [methOf, List.lookup]
theorem Sq_t (ns : List Int) : Sq true ns = .tup (ils ns) := rfl
theorem Sq_l (ns : List Int) : Sq false ns = .lst (ils ns) := rfl
theorem make_t {a : List Int} (h : Fm p a.length) (hn : ∀ x ∈ a, 0 ≤ x ∧ x < p) (m : Store) : makeD 0 3 d_Sum_init [.int p, .tup (ils a)] m = .ok (Sm p a) m := init_ok h hn true m
theorem make_l {a : List Int} (h : Fm p a.length) (hn : ∀ x ∈ a, 0 ≤ x ∧ x < p) (m : Store) : makeD 0 3 d_Sum_init [.int p, .lst (ils a)] m = .ok (Sm p a) m := init_ok h hn false m
theorem Sum_add_ok {a b : List Int} (h : Fm p a.length) (e : a.length = b.length) (m : Store) : d_Sum_add [Sm p a, Sm p b] m = .ok (Sm p (addL p 1 a b)) m := by
  refine fn_pure ?_
  have h6 := h.s6
  have h2 : Fm p (addL p 1 a b).length := by rw [addL_len e]; exact h
  simp [b_Sum_add, startD, require_ok m e.symm, at0, at1, added_ok h.okp (show -1000 ≤ (1 : Int) ∧ (1 : Int) ≤ 1000 by decide) (show a.length ≤ 1000 by omega), make_t h2 (addL_in h.okp)]
theorem Sum_sub_ok {a b : List Int} (h : Fm p a.length) (e : a.length = b.length) (m : Store) : d_Sum_sub [Sm p a, Sm p b] m = .ok (Sm p (addL p (-1) a b)) m := by
  refine fn_pure ?_
  have h6 := h.s6
  have h2 : Fm p (addL p (-1) a b).length := by rw [addL_len e]; exact h
  simp [b_Sum_sub, startD, require_ok m e.symm, at0, at1, added_ok h.okp (show -1000 ≤ (-1 : Int) ∧ (-1 : Int) ≤ 1000 by decide) (show a.length ≤ 1000 by omega), make_t h2 (addL_in h.okp)]
theorem Sum_mul_ok {a : List Int} {f : Int} (h : Fm p a.length) (hn : ∀ x ∈ a, 0 ≤ x ∧ x < p) (m : Store) : d_Sum_mul [Sm p a, .int f] m = .ok (Sm p (sclL p f a)) m := by
  refine fn_pure ?_
  have h6 := h.s6
  have h2 : Fm p (sclL p f a).length := by rw [sclL_len]; exact h
  simp [b_Sum_mul, startD, is_integer_ok, at0, at1, scaled_ok h.okp hn (show a.length ≤ 1000 by omega), make_t h2 (sclL_in h.okp)]
theorem Sum_neg_ok {a : List Int} (h : Fm p a.length) (hn : ∀ x ∈ a, 0 ≤ x ∧ x < p) (m : Store) : d_Sum_neg [Sm p a] m = .ok (Sm p (sclL p (-1) a)) m := by
  refine fn_pure ?_
  have h6 := h.s6
  have h2 : Fm p (sclL p (-1) a).length := by rw [sclL_len]; exact h
  simp [b_Sum_neg, startD, at0, at1, scaled_ok h.okp hn (show a.length ≤ 1000 by omega), make_t h2 (sclL_in h.okp)]
theorem Sum_eq_ok {q : Int} {a b : List Int} (m : Store) : d_Sum_eq [Sm p a, Sm q b] m = .ok (.bl (decide (p = q) && decide (a = b))) m := by
  refine fn_pure ?_
  have h1 : isiD [0] (.cls 0) (Sm q b) m = .ok (.bl true) m := rfl
  by_cases hp : p = q
  · simp [b_Sum_eq, startD, h1, at0, at1, eq_tup, hp]
  · simp [b_Sum_eq, startD, h1, at0, at1, eq_tup, hp]
theorem Sum_eq_tup {a b : List Int} (m : Store) : d_Sum_eq [Sm p a, .tup (ils b)] m = .ok (.bl false) m := by
  refine fn_pure ?_
  simp [b_Sum_eq, startD, isK]
end sums
/-! ### all data -/
def tps (l : List (List Int)) : List D := l.map fun d => D.tup (ils d)
@[simp] theorem tps_length (l : List (List Int)) : (tps l).length = l.length := by simp [tps]
@[simp] theorem tps_nil : tps [] = [] := rfl
theorem tps_one (d : List Int) : tps [d] = [.tup (ils d)] := rfl
@[simp] theorem tps_get (l : List (List Int)) (i : Nat) : (tps l)[i]? = (l[i]?).map fun d => D.tup (ils d) := by simp [tps]
@[simp] theorem tps_app (a b : List (List Int)) : tps a ++ tps b = tps (a ++ b) := by simp [tps]
def allDt (p : Nat) : Nat → List (List Int)
  | 0 => [[]]
  | s + 1 => (allDt p s).flatMap fun d => (List.range p).map fun (v : Nat) => d ++ [(v : Int)]
theorem allDt_len (p : Nat) : ∀ s, (allDt p s).length = p ^ s
  | 0 => rfl
  | s + 1 => by
    have h : ∀ l : List (List Int), (l.flatMap fun d => (List.range p).map fun (v : Nat) => d ++ [(v : Int)]).length = l.length * p := fun l => by
      induction l with
      | nil => simp
      | cons a l ih => simp [ih, Nat.add_mul, Nat.add_comm]
    rw [allDt, h, allDt_len p s, Nat.pow_succ]
theorem allDt_mem (p : Nat) : ∀ s d, d ∈ allDt p s → d.length = s ∧ ∀ x ∈ d, 0 ≤ x ∧ x < (p : Int)
  | 0, d, h => by
    simp [allDt] at h
    subst h
    simp
  | s + 1, d, h => by
    simp only [allDt, List.mem_flatMap, List.mem_map, List.mem_range] at h
    obtain ⟨e, he, v, hv, rfl⟩ := h
    obtain ⟨h1, h2⟩ := allDt_mem p s e he
    refine ⟨by simp [h1], fun x hx => ?_⟩
    simp at hx
    rcases hx with hx | hx
    · exact h2 x hx
    · omega
@[simp] theorem add_tup (i j : List D) (m : Store) : addD (.tup i) (.tup j) m = mkT (i ++ j) m := rfl
@[simp] theorem add_lst (i j : List D) (m : Store) : addD (.lst i) (.lst j) m = mkL (i ++ j) m := rfl
theorem pow_mono {p i s : Nat} (hp : 1 ≤ p) (h : i ≤ s) : p ^ i ≤ p ^ s := Nat.pow_le_pow_right hp h
theorem all_data_step {p : Nat} (hp7 : p ≤ 7) (w : List Int) (hw : w.length ≤ 6) (acc : List (List Int)) (ha : acc.length + p ≤ 100000) (x0 x1 x2 : Option D) (y6 : Option D) (m : Store) :
    lb_all_data_1 [some (D.int p), x0, x1, x2, some (D.lst (tps acc)), some (.tup (ils w)), y6] m
      = .ok (.nx [some (D.int p), x0, x1, x2, some (D.lst (tps (acc ++ (List.range p).map fun (v : Nat) => w ++ [(v : Int)]))), some (.tup (ils w)), y6]) m := by
  have hc : c_all_data_1 [some (D.int p), x0, x1, x2, some (D.lst (tps acc)), some (.tup (ils w)), y6] m = .ok (.lst ((List.range p).map fun (v : Nat) => D.tup (ils (w ++ [(v : Int)])))) m := by
    refine eComp_on (h := fun (i : Nat) => D.int (i : Int)) ?_ (by simp; omega) fun v hv => ⟨_, rfl, ?_⟩
    · rw [iRg1_nat (s := p) (m1 := m) (by omega) (by simp), rngI_eq]
    · simp [wipeD]
      omega
  have hl : (tps acc ++ (List.range p).map fun (v : Nat) => D.tup (ils (w ++ [(v : Int)]))).length ≤ 100000 := by simp; omega
  have he : (tps acc ++ (List.range p).map fun (v : Nat) => D.tup (ils (w ++ [(v : Int)]))) = tps (acc ++ (List.range p).map fun (v : Nat) => w ++ [(v : Int)]) := by simp [tps]
  rw [he] at hl
  generalize hr : ((List.range p).map fun (v : Nat) => D.tup (ils (w ++ [(v : Int)]))) = r at hc he
  have hl2 : (tps (acc ++ (List.range p).map fun (v : Nat) => w ++ [(v : Int)])).length ≤ 100000 := hl
  simp only [lb_all_data_1, sSet_ap, eOp_ap, eVar_ap, getv_some m (e := [some (D.int p), x0, x1, x2, some (D.lst (tps acc)), some (.tup (ils w)), y6]) (i := 4) (d := .lst (tps acc)) rfl, thn_ok, hc, add_lst, he, mkL_ap, hl2, if_true]
  rfl
theorem all_data_ok {p s : Nat} (hp : 1 ≤ p) (hps : p ^ s ≤ 4096) (hp7 : p ≤ 7) (hs : s ≤ 6) (m : Store) : d_all_data [.int p, .int s] m = .ok (.lst (tps (allDt p s))) m := by
  refine fn_pure ?_
  have hr : iRg1 (aCons (eVar 1) aNil) [some (D.int p), some (D.int s), some (D.lst [D.tup []]), none, none, none, none] m = .ok ⟨rngI 0 s, []⟩ m := iRg1_nat (by omega) (by simp)
  obtain ⟨e', m', h1, ⟨x3, x4, x5, x6, rfl⟩, rfl⟩ := forL_inv (src := rngI 0 s) (g := gNm 3) (b := lb_all_data_2)
    (fun i e m' => (∃ x3 x4 x5 x6, e = [some (D.int p), some (D.int s), some (D.lst (tps (allDt p i))), x3, x4, x5, x6]) ∧ m' = m) (rngI 0 s) 0 [some (D.int p), some (D.int s), some (D.lst [D.tup []]), none, none, none, none] m ⟨⟨none, none, none, none, by simp [allDt, tps_one]⟩, rfl⟩ (by
    rintro j d e m' hj ⟨⟨x3, x4, x5, x6, rfl⟩, rfl⟩
    have hjs : j < s := by
      have := (List.getElem?_eq_some_iff.mp hj).1
      simpa [rngI] using this
    simp only [Nat.zero_add]
    have hlen : (allDt p (j + 1)).length ≤ 4096 := by rw [allDt_len]; exact Nat.le_trans (pow_mono hp hjs) hps
    obtain ⟨e', m', h1, ⟨y5, y6, rfl⟩, rfl⟩ := forL_inv (src := tps (allDt p j)) (g := gNm 5) (b := lb_all_data_1)
      (fun i e m1 => (∃ y5 y6, e = [some (D.int p), some (D.int s), some (D.lst (tps (allDt p j))), some d, some (D.lst (tps (((allDt p j).take i).flatMap fun d => (List.range p).map fun (v : Nat) => d ++ [(v : Int)]))), y5, y6]) ∧ m1 = m')
      (tps (allDt p j)) 0 [some (D.int p), some (D.int s), some (D.lst (tps (allDt p j))), some d, some (D.lst []), x5, x6] m' ⟨⟨x5, x6, by simp⟩, rfl⟩ (by
      rintro i d2 e m1 hi ⟨⟨y5, y6, rfl⟩, rfl⟩
      simp only [Nat.zero_add]
      simp only [tps, List.getElem?_map, Option.map_eq_some_iff] at hi
      obtain ⟨w, hw, rfl⟩ := hi
      have hwm : w ∈ allDt p j := List.mem_of_getElem? hw
      have hwl := (allDt_mem p j w hwm).1
      have ht : (allDt p j).take (i + 1) = (allDt p j).take i ++ [w] := by
        rw [List.take_succ, hw]; rfl
      have hf : (((allDt p j).take (i + 1)).flatMap fun d => (List.range p).map fun (v : Nat) => d ++ [(v : Int)]) = (((allDt p j).take i).flatMap fun d => (List.range p).map fun (v : Nat) => d ++ [(v : Int)]) ++ (List.range p).map fun (v : Nat) => w ++ [(v : Int)] := by
        rw [ht, List.flatMap_append]
        simp
      have hl2 : ((((allDt p j).take (i + 1)).flatMap fun d => (List.range p).map fun (v : Nat) => d ++ [(v : Int)])).length ≤ 4096 := by
        refine Nat.le_trans ?_ hlen
        rw [allDt]
        conv => rhs; rw [← List.take_append_drop (i + 1) (allDt p j)]
        rw [List.flatMap_append, List.length_append]
        omega
      rw [hf] at hl2 ⊢
      generalize (((allDt p j).take i).flatMap fun d => (List.range p).map fun (v : Nat) => d ++ [(v : Int)]) = acc at hl2 ⊢
      rw [List.length_append, List.length_map, List.length_range] at hl2
      exact ⟨_, _, _, _, rfl, .inl (all_data_step hp7 w (by omega) acc (by omega) _ _ _ y6 m1), ⟨some (.tup (ils w)), y6, rfl⟩, rfl⟩)
    refine ⟨_, _, _, _, rfl, .inl ?_, ⟨some d, some (D.lst (tps (allDt p (j + 1)))), y5, y6, rfl⟩, rfl⟩
    have hz : 0 + (tps (allDt p j)).length = (allDt p j).length := by simp
    rw [hz] at h1
    have e3 : (((allDt p j).take (allDt p j).length).flatMap fun d => (List.range p).map fun (v : Nat) => d ++ [(v : Int)]) = allDt p (j + 1) := by rw [List.take_length]; rfl
    rw [e3] at h1
    simp [lb_all_data_2, l_all_data_1, h1])
  have hz : 0 + (rngI 0 s).length = s := by simp [rngI]
  rw [hz] at h1
  simp [b_all_data, l_all_data_2, startD, hr, h1]
theorem Sum_call_ok {p : Int} {ns d : List Int} (h : Fm p ns.length) (hn : ∀ x ∈ ns, 0 ≤ x ∧ x < p) (hd : d.length = ns.length) (hdn : ∀ x ∈ d, 0 ≤ x ∧ x < p) (m : Store) : d_Sum_call [Sm p ns, .tup (ils d)] m = .ok (.int (valL p ns d)) m := by
  refine fn_pure ?_
  have h6 := h.s6
  have h1 := is_data_ok (ns := d) (by rw [hd]; exact h) hdn true m
  rw [hd] at h1
  have h2 : Sq true d = .tup (ils d) := rfl
  rw [h2] at h1
  simp [b_Sum_call, startD, at0, at1, h1, value_of_ok h.okp hn (by omega)]
theorem ne_same {d : D} {x : PyData} {m : Store} (h : topPD d m = some x) (hs : SeqAt.shaped x = true) : neD d d m = .ok (.bl false) m := by
  simp [neD, onPD, h, hs, PySem.SeqAt.eqv_refl x (SeqAt.canLay_of_shaped hs)]
theorem zeros_mul (n : Nat) (h1 : 1 ≤ n) (h2 : n ≤ 1000) (m : Store) : mulD (.tup [.int 0]) (.int n) m = .ok (.tup (ils (List.replicate n 0))) m := by
  have e : (List.replicate n [D.int 0]).flatten = ils (List.replicate n 0) := by
    induction n with
    | zero => rfl
    | succ n ih =>
      by_cases hn : 1 ≤ n
      · simp [List.replicate_succ, ils_cons] at ih ⊢
        exact ih hn (by omega)
      · have : n = 0 := by omega
        subst this
        rfl
  have hc : (1 : Int) ≤ n ∧ (n : Int) ≤ 1000 := by omega
  simp [mulD, hc, e]
theorem zero_iff (ns : List Int) : isZ ns = decide (ns = List.replicate ns.length 0) := by
  unfold isZ
  induction ns with
  | nil => rfl
  | cons a l ih =>
    simp only [List.map_cons, List.any_cons, List.length_cons, List.replicate_succ, List.cons.injEq, id_eq, Bool.not_or, ih]
    by_cases h : a = 0 <;> simp [h]
def bts (n : Nat) : List D := List.replicate n (.bl true)
theorem bts_map {α : Type} (l : List α) : (l.map fun _ => D.bl true) = bts l.length := by
  unfold bts
  induction l with
  | nil => rfl
  | cons a l ih => simp [List.replicate_succ, ih]
theorem all_bts (n : Nat) (m : Store) : allD [.lst (bts n)] m = .ok (.bl true) m := by
  have h := all_bls (List.replicate n true) m
  have e : (List.replicate n true).map D.bl = bts n := by simp [bts]
  have e2 : (List.replicate n true).all id = true := by simp
  rw [e, e2] at h
  exact h
theorem sum_right_ok {p : Int} {ns : List Int} (h : Fm p ns.length) (hn : ∀ x ∈ ns, 0 ≤ x ∧ x < p) (b : Bool) (m : Store) : d_sum_right [Sm p ns, Sq b ns, .int p] m = .ok (.bl true) m := by
  refine fn_pure ?_
  have h6 := h.s6
  have h1 := h.s1
  have hp := okp_pos h.okp
  have hp7 := okp_le h.okp
  obtain ⟨q, rfl⟩ : ∃ q : Nat, p = q := ⟨p.toNat, by omega⟩
  have hq : 1 ≤ q := by omega
  have hpw : q ^ ns.length ≤ 4096 := by have := h.pw; exact_mod_cast this
  have ha := all_data_ok (p := q) (s := ns.length) hq hpw (by omega) h6 m
  have hz := zeros_mul ns.length h1 (by omega) m
  have hq2 := eq_tup ns (List.replicate ns.length 0) m
  rw [← zero_iff] at hq2
  have hne : neD (.lst [.int q, .tup (ils ns), .int ns.length, .bl (isZ ns)]) (.lst [.int q, .tup (ils ns), .int ns.length, .bl (isZ ns)]) m = .ok (.bl false) m := by
    refine ne_same (x := .list [.int q, .tuple (ns.map .int), .int ns.length, .bool (isZ ns)]) (by simp [topPD, toPD, toPDs, toPDs_ints]) ?_
    simp [SeqAt.shaped, PyData.canLay0, PyData.canLayAll0, canLay_ints, PyData.depth, PyData.depthAll, depth_ints]
  have ht := tuple_Sq b ns m (by omega)
  have hc : ∀ x3, c_sum_right_1 [some (Sm q ns), some (Sq b ns), some (D.int q), x3, none] m = .ok (.lst (bts (allDt q ns.length).length)) m := by
    intro x3
    rw [← bts_map]
    refine eComp_on (h := fun d => D.tup (ils d)) (by simp [ha, tps]) (by rw [allDt_len]; omega) fun d hd => ⟨_, rfl, ?_⟩
    obtain ⟨d1, d2⟩ := allDt_mem q ns.length d hd
    have hcall := Sum_call_ok h hn d1 d2 m
    have hv := value_ok (d := d) h.okp hn (by omega) b m
    have ho : eCallO 0 2 d_Sum_call (eVar 0) (aCons (eVar 4) aNil) [some (Sm q ns), some (Sq b ns), some (D.int q), x3, some (D.tup (ils d))] m = .ok (.int (valL q ns d)) m := by
      have : objM 0 (Sm q ns) m = .ok () m := rfl
      simp [eCallO, this, hcall]
    simp [wipeD, ho, hv]
  have hall := all_bts (allDt q ns.length).length m
  simp [b_sum_right, startD, ht, hz, hq2, hne, hc, hall, prop_ap (prime_ok m), prop_ap (factors_ok m), prop_ap (size_ok m), prop_ap (is_zero_ok m)]
/-! ### the law's own defs -/
theorem callN_1 (den : List D → M D) (x : D) (m : Store) : callN 1 den [x] m = den [x] m := rfl
theorem callN_2 (den : List D → M D) (x y : D) (m : Store) : callN 2 den [x, y] m = den [x, y] m := rfl
theorem ownB_own {c n : Nat} {den : List D → M D} {tab : MTab} {g0 : D → D → M D} {vs : List D} {y : D} {m : Store} {r : Res D} (hy : argOk c y m = true) (h : callN n den [.obj c vs, y] m = r) : ownB ((c, n, den) :: tab) g0 (.obj c vs) y m = r := by
  subst h
  simp [ownB, clsD, List.lookup, hy]
theorem ownB_int {tab : MTab} {g0 : D → D → M D} {i : Int} {y : D} {m : Store} : ownB tab g0 (.int i) y m = g0 (.int i) y m := rfl
theorem ownU_own {c n : Nat} {den : List D → M D} {tab : MTab} {g0 : D → M D} {vs : List D} {m : Store} : ownU ((c, n, den) :: tab) g0 (.obj c vs) m = callN n den [.obj c vs] m := by
  simp [ownU, clsD, List.lookup]
theorem ownE_own {c n : Nat} {cs : List Nat} {den : List D → M D} {tab : MTab} {neg : Bool} {g0 : D → D → M D} {vs : List D} {y : D} {kd : Kd} {m : Store} (hk : kindOf cs y m = some kd) : ownE cs ((c, n, den) :: tab) neg g0 (.obj c vs) y m = (callN n den [.obj c vs, y] >>= flipD neg) m := by
  simp [ownE, clsD, List.lookup, hk]
section
variable {p : Int} {a b : List Int} {f : Int}
theorem own_add (h : Fm p a.length) (e : a.length = b.length) (m : Store) : ownB [(0, 2, d_Sum_add)] addD (Sm p a) (Sm p b) m = .ok (Sm p (addL p 1 a b)) m := ownB_own rfl (by rw [callN_2]; exact Sum_add_ok h e m)
theorem own_sub (h : Fm p a.length) (e : a.length = b.length) (m : Store) : ownB [(0, 2, d_Sum_sub)] subD (Sm p a) (Sm p b) m = .ok (Sm p (addL p (-1) a b)) m := ownB_own rfl (by rw [callN_2]; exact Sum_sub_ok h e m)
theorem own_mul (h : Fm p a.length) (hn : ∀ x ∈ a, 0 ≤ x ∧ x < p) (m : Store) : ownB [(0, 2, d_Sum_mul)] mulD (Sm p a) (.int f) m = .ok (Sm p (sclL p f a)) m := ownB_own rfl (by rw [callN_2]; exact Sum_mul_ok h hn m)
theorem own_neg (h : Fm p a.length) (hn : ∀ x ∈ a, 0 ≤ x ∧ x < p) (m : Store) : ownU [(0, 1, d_Sum_neg)] negD (Sm p a) m = .ok (Sm p (sclL p (-1) a)) m := by
  rw [show Sm p a = .obj 0 [.int p, .tup (ils a)] from rfl, ownU_own, callN_1]
  exact Sum_neg_ok h hn m
theorem own_eq {q : Int} (m : Store) : ownE [0] [(0, 2, d_Sum_eq)] false eqD (Sm p a) (Sm q b) m = .ok (.bl (decide (p = q) && decide (a = b))) m := by
  have h := Sum_eq_ok (p := p) (q := q) (a := a) (b := b) m
  rw [show Sm p a = .obj 0 [.int p, .tup (ils a)] from rfl] at h ⊢
  rw [ownE_own (kd := .obj 0) rfl, bind_ap, callN_2, h]
  rfl
theorem own_ne {q : Int} (m : Store) : ownE [0] [(0, 2, d_Sum_eq)] true neD (Sm p a) (Sm q b) m = .ok (.bl (!(decide (p = q) && decide (a = b)))) m := by
  have h := Sum_eq_ok (p := p) (q := q) (a := a) (b := b) m
  rw [show Sm p a = .obj 0 [.int p, .tup (ils a)] from rfl] at h ⊢
  rw [ownE_own (kd := .obj 0) rfl, bind_ap, callN_2, h]
  rfl
theorem own_eqt (m : Store) : ownE [0] [(0, 2, d_Sum_eq)] false eqD (Sm p a) (.tup (ils b)) m = .ok (.bl false) m := by
  have h := Sum_eq_tup (p := p) (a := a) (b := b) m
  rw [show Sm p a = .obj 0 [.int p, .tup (ils a)] from rfl] at h ⊢
  rw [ownE_own (kd := .tup) rfl, bind_ap, callN_2, h]
  rfl
theorem eqE_tup (m : Store) : ownE [0] [(0, 2, d_Sum_eq)] false eqD (.tup (ils a)) (.tup (ils b)) m = .ok (.bl (decide (a = b))) m := eq_tup a b m
theorem eqE_bl (x y : Bool) (m : Store) : ownE [0] [(0, 2, d_Sum_eq)] false eqD (.bl x) (.bl y) m = .ok (.bl (x == y)) m := eq_bl x y m
theorem eqE_int (x y : Int) (m : Store) : ownE [0] [(0, 2, d_Sum_eq)] false eqD (.int x) (.int y) m = .ok (.bl (x == y)) m := eq_int x y m
/-- a comprehension over two rows -/
theorem zipC {g : D → D → M D} {f : Int → Int → Int} {i0 i1 j0 j1 : Nat} {elt : DEnv → M D} {e : DEnv} {m : Store} (h0 : e[i0]? = some (some (.tup (ils a)))) (h1 : e[i1]? = some (some (.tup (ils b)))) (hl : a.length ≤ 1000)
    (hq : ∀ x y, x ∈ a → y ∈ b → elt (((wipeD e [j0, j1]).set j0 (some (.int x))).set j1 (some (.int y))) m = .ok (.int (f x y)) m) :
    eComp (iZip (aCons (eVar i0) (aCons (eVar i1) aNil))) (gTp 2 (gsCons (gNm j0) (gsCons (gNm j1) gsNil))) tYesD elt [j0, j1] e m = .ok (.lst (ils ((a.zip b).map fun q => f q.1 q.2))) m := by
  have e2 : ils ((a.zip b).map fun q => f q.1 q.2) = (a.zip b).map fun q => D.int (f q.1 q.2) := by simp [ils]
  rw [e2]
  refine eComp_on (h := pr2) ?_ (by simp; omega) fun q hq' => ⟨_, rfl, ?_⟩
  · rw [iZip_ap _ _ _ (x := .tup (ils a)) (y := .tup (ils b)) (m1 := m) (xs := ils a) (ys := ils b) (by simp [getv_some m h0, getv_some m h1]) rfl rfl, zipT_ils]
  · exact hq q.1 q.2 (List.of_mem_zip hq').1 (List.of_mem_zip hq').2
/-- .. over one row -/
theorem seqC {f : Int → Int} {i0 j0 : Nat} {elt : DEnv → M D} {e : DEnv} {m : Store} (h0 : e[i0]? = some (some (.tup (ils a)))) (hl : a.length ≤ 1000)
    (hq : ∀ x, x ∈ a → elt ((wipeD e [j0]).set j0 (some (.int x))) m = .ok (.int (f x)) m) :
    eComp (iSeqD (eVar i0)) (gNm j0) tYesD elt [j0] e m = .ok (.lst (ils (a.map f))) m := by
  have e2 : ils (a.map f) = a.map fun x => D.int (f x) := by simp [ils]
  rw [e2]
  exact eComp_on (h := D.int) (by simp [getv_some m h0]; rfl) (by omega) fun q hq' => ⟨_, rfl, hq q hq'⟩
end
theorem pair_right_ok {p k : Int} {a b : List Int} (h : Fm p a.length) (e : a.length = b.length) (ha : ∀ x ∈ a, 0 ≤ x ∧ x < p) (hb : ∀ x ∈ b, 0 ≤ x ∧ x < p) (m : Store) : d_pair_right [.int p, .tup (ils a), .tup (ils b), .int k] m = .ok (.bl true) m := by
  refine fn_pure ?_
  have h6 := h.s6
  have hp := okp_pos h.okp
  have hp7 := okp_le h.okp
  have hB : Fm p b.length := by rw [← e]; exact h
  have hlist : b.length ≤ 100000 := by omega
  have m1 := make_t h ha m
  have m2 := make_l hB hb m
  have hal : Fm p (addL p 1 a b).length := by rw [addL_len e]; exact h
  have hsl : Fm p (addL p (-1) a b).length := by rw [addL_len e]; exact h
  have hml : Fm p (sclL p k a).length := by rw [sclL_len]; exact h
  have hnl : Fm p (sclL p (-1) a).length := by rw [sclL_len]; exact h
  have c1 : ∀ y4 y5 y6 y7 y8, c_pair_right_1
      [some (.int p), some (.tup (ils a)), some (.tup (ils b)), some (.int k), y4, y5, y6, y7, y8, none, none] m = .ok (.lst (ils (addL p 1 a b))) m := by
    intro y4 y5 y6 y7 y8
    have e1 : addL p 1 a b = (a.zip b).map fun q => (q.1 + q.2) % p := by simp [addL]
    rw [e1]
    refine zipC (g := addD) (f := fun x y => (x + y) % p) rfl rfl (by omega) fun x y _ _ => ?_
    simp [wipeD, ownB_int, mod_int _ hp]
  have c2 : ∀ y4 y5 y6 y7 y8, c_pair_right_2
      [some (.int p), some (.tup (ils a)), some (.tup (ils b)), some (.int k), y4, y5, y6, y7, y8, none, none] m = .ok (.lst (ils (addL p (-1) a b))) m := by
    intro y4 y5 y6 y7 y8
    have e1 : addL p (-1) a b = (a.zip b).map fun q => (q.1 - q.2) % p := by simp [addL, Int.sub_eq_add_neg]
    rw [e1]
    refine zipC (g := addD) (f := fun x y => (x - y) % p) rfl rfl (by omega) fun x y _ _ => ?_
    simp [wipeD, ownB_int, mod_int _ hp]
  have c3 : ∀ y4 y5 y6 y7 y8, c_pair_right_3
      [some (.int p), some (.tup (ils a)), some (.tup (ils b)), some (.int k), y4, y5, y6, y7, y8, none, none] m = .ok (.lst (ils (sclL p k a))) m := by
    intro y4 y5 y6 y7 y8
    refine seqC (f := fun x => x * k % p) rfl (by omega) fun x hx => ?_
    obtain ⟨q1, q2⟩ := ha x hx
    simp [wipeD, ownB_int, mod_int _ hp, mul_int _ (cm_l (i := x) (j := k) (by omega) (by omega))]
  have c4 : ∀ y4 y5 y6 y7 y8, c_pair_right_4
      [some (.int p), some (.tup (ils a)), some (.tup (ils b)), some (.int k), y4, y5, y6, y7, y8, none, none] m = .ok (.lst (ils (sclL p (-1) a))) m := by
    intro y4 y5 y6 y7 y8
    have e1 : sclL p (-1) a = a.map fun x => (0 - x) % p := by
      unfold sclL
      refine List.map_congr_left fun x _ => ?_
      rw [show x * -1 = 0 - x by omega]
    rw [e1]
    refine seqC (f := fun x => (0 - x) % p) rfl (by omega) fun x hx => ?_
    simp [wipeD, ownB_int, mod_int _ hp]
  have s1 := sum_right_ok h ha true m
  have s2 := sum_right_ok hal (addL_in h.okp) false m
  have s3 := sum_right_ok hsl (addL_in h.okp) false m
  have s4 := sum_right_ok hml (sclL_in h.okp) false m
  have s5 := sum_right_ok hnl (sclL_in h.okp) false m
  simp only [Sq_t, Sq_l] at s1 s2 s3 s4 s5
  have i1 : isD false (.bl false) (.bl false) m = .ok (.bl true) m := rfl
  simp [b_pair_right, startD, m1, m2, hlist, c1, c2, c3, c4, s1, s2, s3, s4, s5, own_add h e, own_sub h e, own_mul h ha, own_neg h ha, own_eq, own_eqt, eqE_tup, eqE_bl, i1]

theorem src_len {m : Store} {n : Nat} (h : SrcAt m n) : n < m.length := by
  obtain ⟨a, s, h⟩ := h
  exact (List.getElem?_eq_some_iff.mp h).1
theorem form_ok {m : Store} {n : Nat} (h : SrcAt m n) : ∃ (p : Int) (k : Nat) (a s : Int), d_form [.loc n] m = .ok (.tup [.int p, .int k]) (m.set n (some (.lst [.int a, .int s]))) ∧ Fm p k := by
  obtain ⟨d, a, s, e, hd⟩ := pick_ok (ds := [.tup [.int 2, .int 1], .tup [.int 2, .int 2], .tup [.int 2, .int 3], .tup [.int 2, .int 4], .tup [.int 3, .int 1], .tup [.int 3, .int 2], .tup [.int 3, .int 3], .tup [.int 5, .int 2], .tup [.int 7, .int 2]]) h (by decide) (by decide)
  have e2 : d_form [.loc n] m = .ok d (m.set n (some (.lst [.int a, .int s]))) := by
    refine fn_any ?_ (by simp)
    simp [b_form, startD, e]
  simp only [List.mem_cons, List.not_mem_nil, or_false] at hd
  rcases hd with rfl | rfl | rfl | rfl | rfl | rfl | rfl | rfl | rfl
  · exact ⟨2, 1, a, s, e2, ⟨.inl rfl, by decide, by decide, by decide⟩⟩
  · exact ⟨2, 2, a, s, e2, ⟨.inl rfl, by decide, by decide, by decide⟩⟩
  · exact ⟨2, 3, a, s, e2, ⟨.inl rfl, by decide, by decide, by decide⟩⟩
  · exact ⟨2, 4, a, s, e2, ⟨.inl rfl, by decide, by decide, by decide⟩⟩
  · exact ⟨3, 1, a, s, e2, ⟨.inr (.inl rfl), by decide, by decide, by decide⟩⟩
  · exact ⟨3, 2, a, s, e2, ⟨.inr (.inl rfl), by decide, by decide, by decide⟩⟩
  · exact ⟨3, 3, a, s, e2, ⟨.inr (.inl rfl), by decide, by decide, by decide⟩⟩
  · exact ⟨5, 2, a, s, e2, ⟨.inr (.inr (.inl rfl)), by decide, by decide, by decide⟩⟩
  · exact ⟨7, 2, a, s, e2, ⟨.inr (.inr (.inr rfl)), by decide, by decide, by decide⟩⟩
/-- draws in a comprehension: the store changes at the source alone -/
theorem drawC {n j0 : Nat} {k : Int} (hk : 0 < k) (hk2 : k < 2 ^ 100) {elt : DEnv → M D} {e : DEnv} {src : List D} (hq : ∀ d m, SrcAt m n → elt ((e).set j0 (some d)) m = d_draw [.loc n, .int k] m) :
    ∀ (ds : List D) (m : Store), SrcAt m n → ∃ ns a s, compL ⟨src, []⟩ (gNm j0) tYesD elt e ds m = .ok (ils ns) (m.set n (some (.lst [.int a, .int s]))) ∧ ns.length = ds.length ∧ ∀ x ∈ ns, 0 ≤ x ∧ x < k
  | [], m, h => by
    obtain ⟨a, s, h⟩ := h
    refine ⟨[], a, s, ?_, rfl, by simp⟩
    have : m.set n (some (.lst [.int a, .int s])) = m := by
      obtain ⟨hl, hg⟩ := List.getElem?_eq_some_iff.mp h
      rw [← hg]
      exact List.set_getElem_self ..
    simp [compL, this]
  | d :: ds, m, h => by
    obtain ⟨r, a, s, e1, r0, r1⟩ := draw_ok (k := k) h hk hk2
    obtain ⟨ns, a', s', e2, l2, b2⟩ := drawC (src := src) hk hk2 hq ds (m.set n (some (.lst [.int a, .int s]))) (src_set h)
    refine ⟨r :: ns, a', s', ?_, by simp [l2], fun x hx => ?_⟩
    · rw [List.set_set] at e2
      have e3 := hq d m h
      rw [e1] at e3
      simp [compL, noX, e3, e2, ils_cons]
    · rcases List.mem_cons.mp hx with rfl | hx
      · exact ⟨r0, r1⟩
      · exact b2 x hx
theorem factors_law {m : Store} {n : Nat} {p : Int} {k : Nat} (h : SrcAt m n) (f : Fm p k) : ∃ (ns : List Int) (a s : Int), d_factors [.loc n, .int p, .int k] m = .ok (.tup (ils ns)) (m.set n (some (.lst [.int a, .int s]))) ∧ ns.length = k ∧ ∀ x ∈ ns, 0 ≤ x ∧ x < p := by
  have hp := okp_pos f.okp
  have hp7 := okp_le f.okp
  have h6 := f.s6
  obtain ⟨ns, a, s, e, l, b⟩ := drawC (n := n) (j0 := 3) (k := p) hp (by omega) (elt := eCallB (callN 2 d_draw) (aCons (eVar 0) (aCons (eVar 1) aNil))) (e := [some (.loc n), some (.int p), some (.int k), none]) (src := rngI 0 k) (fun d m _ => by simp) (rngI 0 k) m h
  have hl : ns.length = k := by rw [l]; simp [rngI]
  refine ⟨ns, a, s, fn_any ?_ (by simp), hl, b⟩
  have hr : iRg1 (aCons (eVar 2) aNil) [some (.loc n), some (.int p), some (.int k), none] m = .ok ⟨rngI 0 k, []⟩ m := iRg1_nat (by omega) (by simp)
  have hz : (rngI 0 k).length ≤ 100000 := by simp [rngI]; omega
  have hl2 : ns.length ≤ 100000 := by omega
  simp [b_factors, c_factors_1, startD, eComp, compM, hr, DL.sizeOk, hz, wipeD, e, hl2]
def unitL (s : Nat) (i : Nat) : List Int := (List.range s).map fun j => if j = i then 1 else 0
theorem unitL_len (s i : Nat) : (unitL s i).length = s := by simp [unitL]
theorem unitL_in {p : Int} (h : OkP p) (s i : Nat) : ∀ x ∈ unitL s i, 0 ≤ x ∧ x < p := by
  intro x hx
  simp only [unitL, List.mem_map] at hx
  obtain ⟨j, _, rfl⟩ := hx
  have : 2 ≤ p := by rcases h with h | h | h | h <;> omega
  split <;> omega
theorem rangeC {k j0 i0 : Nat} {f : Nat → Int} {elt : DEnv → M D} {e : DEnv} {m : Store} (h0 : e[i0]? = some (some (.int k))) (hl : k ≤ 1000)
    (hq : ∀ j, j < k → elt ((wipeD e [j0]).set j0 (some (.int j))) m = .ok (.int (f j)) m) : eComp (iRg1 (aCons (eVar i0) aNil)) (gNm j0) tYesD elt [j0] e m = .ok (.lst (ils ((List.range k).map f))) m := by
  have e2 : ils ((List.range k).map f) = (List.range k).map fun j => D.int (f j) := by simp [ils]
  rw [e2]
  refine eComp_on (h := fun (i : Nat) => D.int (i : Int)) ?_ (by simp; omega) fun j hj => ⟨_, rfl, hq j (by simpa using hj)⟩
  rw [iRg1_nat (s := k) (m1 := m) (by omega) (by simp [getv_some m h0]), rngI_eq]
theorem clsIs_cls (c : Nat) (m : Store) : clsIs c (.cls c) m = .ok () m := by simp [clsIs]
theorem eMkV_ap (c n : Nat) (den : List D → M D) (f : DEnv → M D) (as : DEnv → M (List D)) (e : DEnv) (m : Store) : eMkV c n den f as e m = (f e m).thn fun x m1 => (clsIs c x m1).thn fun _ m2 => (as e m2).thn fun ds m3 => makeD c n den ds m3 := by simp [eMkV]
theorem Sum_unit_ok {p : Int} {s i : Nat} (h : Fm p s) (hi : i < s) (m : Store) : d_Sum_unit [.cls 0, .int p, .int s, .int i] m = .ok (Sm p (unitL s i)) m := by
  refine fn_pure ?_
  have h6 := h.s6
  have hb : d_is_between [.int i, .int 0, .int ((s : Int) - 1)] m = .ok (.bl true) m := by
    rw [is_between_ok]
    have h1 : (0 : Int) ≤ i := by omega
    have h2 : (i : Int) ≤ s - 1 := by omega
    simp [h1, h2]
  have hc : c_Sum_unit_1 [some (.cls 0), some (.int p), some (.int s), some (.int i), none] m = .ok (.lst (ils (unitL s i))) m := by
    refine rangeC rfl (by omega) fun j hj => ?_
    by_cases hji : j = i
    · simp [wipeD, hji]
    · have : ((j : Int) == (i : Int)) = false := by simp; omega
      simp [wipeD, hji, this]
  have hm := make_l (a := unitL s i) (p := p) (by rw [unitL_len]; exact h) (unitL_in h.okp s i) m
  simp [b_Sum_unit, startD, is_prime_ok h.okp, is_size_ok h, hb, eMkV_ap, clsIs_cls, hc, hm]
theorem unit_int {p : Int} {s i : Nat} (hs : s ≤ 6) (m : Store) (y1 y2 y3 y5 y7 y8 y9 : Option D) (y0 : Option D) : c_law_1 [y0, y1, y2, y3, some (.int i), y5, some (.int s), y7, y8, y9, none] m = .ok (.lst (ils (unitL s i))) m := by
  refine rangeC rfl (by omega) fun j hj => ?_
  by_cases hji : j = i
  · simp [wipeD, eqE_int, hji]
  · have : ((j : Int) == (i : Int)) = false := by simp; omega
    simp [wipeD, eqE_int, hji, this]
theorem unitsL {p : Int} {s : Nat} (h : Fm p s) (m : Store) (y0 y1 y2 y3 y7 y8 : Option D) (y4 y9 y10 : Option D) (hy : y10 = none) :
    ∃ y4' y9', l_law_1
      [y0, y1, y2, y3, y4, some (.int p), some (.int s), y7, y8, y9, y10] m = .ok (.nx [y0, y1, y2, y3, y4', some (.int p), some (.int s), y7, y8, y9', none]) m := by
  subst hy
  have h6 := h.s6
  have hr : iRg1 (aCons (eVar 6) aNil) [y0, y1, y2, y3, y4, some (.int p), some (.int s), y7, y8, y9, none] m = .ok ⟨rngI 0 s, []⟩ m := iRg1_nat (by omega) (by simp)
  obtain ⟨e', m', h1, ⟨x4, x9, rfl⟩, rfl⟩ := forL_inv (src := rngI 0 s) (g := gNm 4) (b := lb_law_1)
    (fun i e m' => (∃ x4 x9, e = [y0, y1, y2, y3, x4, some (.int p), some (.int s), y7, y8, x9, none]) ∧ m' = m) (rngI 0 s) 0 [y0, y1, y2, y3, y4, some (.int p), some (.int s), y7, y8, y9, none] m ⟨⟨y4, y9, rfl⟩, rfl⟩ (by
    rintro j d e m' hj ⟨⟨x4, x9, rfl⟩, rfl⟩
    have hjs : j < s := by
      have := (List.getElem?_eq_some_iff.mp hj).1
      simpa [rngI] using this
    have hd : d = .int j := by
      simp [rngI, hjs] at hj
      exact hj.symm
    subst hd
    refine ⟨_, _, _, _, rfl, .inl ?_, ⟨some (.int j), some (Sm p (unitL s j)), rfl⟩, rfl⟩
    have hu := Sum_unit_ok h hjs m'
    have hm := make_l (a := unitL s j) (p := p) (by rw [unitL_len]; exact h) (unitL_in h.okp s j) m'
    simp [lb_law_1, eCM, hu, unit_int (p := p) h6, hm, own_ne])
  exact ⟨x4, x9, by simp [l_law_1, hr, h1]⟩
theorem turn_ok {ns : List Int} {t : Nat} {m : Store} {x2 x3 x4 x5 x6 x7 x8 x9 : Option D} : ∃ y2 y3 y4 y5 y6 y7 y8 y9 m', 
    lb_law_2
      [some (.lst (ils ns)), some (.int t), x2, x3, x4, x5, x6, x7, x8, x9, none] m = .ok (.nx [some (.lst (ils ns)), some (.int t), y2, y3, y4, y5, y6, y7, y8, y9, none]) m' := by
  obtain ⟨a0, s0, e0⟩ := source_ok (m := m) (ns := ns) (t := t)
  have w0 := src_new m a0 s0
  generalize hM : m ++ [some (Cell.lst [.int a0, .int s0])] = M0 at e0 w0
  generalize hn : m.length = n at e0 w0
  obtain ⟨p, k, a1, s1, e1, f⟩ := form_ok w0
  have w1 := src_set (a := a1) (s := s1) w0
  generalize M0.set n (some (.lst [.int a1, .int s1])) = M1 at e1 w1
  obtain ⟨u, a2, s2, e2, l2, b2⟩ := factors_law w1 f
  have w2 := src_set (a := a2) (s := s2) w1
  generalize M1.set n (some (.lst [.int a2, .int s2])) = M2 at e2 w2
  obtain ⟨v, a3, s3, e3, l3, b3⟩ := factors_law w2 f
  have w3 := src_set (a := a3) (s := s3) w2
  generalize M2.set n (some (.lst [.int a3, .int s3])) = M3 at e3 w3
  obtain ⟨r, a4, s4, e4, r0, r1⟩ := draw_ok (k := 6) w3 (by decide) (by decide)
  generalize M3.set n (some (.lst [.int a4, .int s4])) = M4 at e4
  have fu : Fm p u.length := by rw [l2]; exact f
  obtain ⟨kk, hk⟩ : ∃ kk : Int, ixD (.lst [.int 0, .int 1, .int (-1), .int p, .int (10 ^ 20 + 3), .int (-17)]) (.int r) M4 = .ok (.int kk) M4 := by
    have : r = 0 ∨ r = 1 ∨ r = 2 ∨ r = 3 ∨ r = 4 ∨ r = 5 := by omega
    rcases this with rfl | rfl | rfl | rfl | rfl | rfl <;> exact ⟨_, ix_seq rfl (by decide) rfl⟩
  have p1 := pair_right_ok (k := kk) fu (l2.trans l3.symm) b2 b3 M4
  have p2 := pair_right_ok (k := kk) fu rfl b2 b2 M4
  have hpw : CPw 10 20 := ⟨by decide, by decide, by decide⟩
  have h10 : mkL [.int 0, .int 1, .int (-1), .int p, .int (10 ^ 20 + 3), .int (-17)] M3 = .ok (.lst [.int 0, .int 1, .int (-1), .int p, .int (10 ^ 20 + 3), .int (-17)]) M3 := by simp
  obtain ⟨z4, z9, hu⟩ := unitsL f M4 (some (.lst (ils ns))) (some (.int t)) (some (.loc n)) (some (.int kk)) (some (.tup (ils u))) (some (.tup (ils v))) x4 x9 none rfl
  have mk21 := make_t (p := 2) (a := [1, 0]) ⟨.inl rfl, by decide, by decide, by decide⟩ (by decide) M4
  have mk31 := make_t (p := 3) (a := [1, 0]) ⟨.inr (.inl rfl), by decide, by decide, by decide⟩ (by decide) M4
  have mk3 := make_t (p := 3) (a := [1]) ⟨.inr (.inl rfl), by decide, by decide, by decide⟩ (by decide) M4
  simp only [ils_cons, ils_nil] at mk21 mk31 mk3
  refine ⟨some (.loc n), some (.int kk), z4, some (.int p), some (.int k), some (.tup (ils u)), some (.tup (ils v)), z9, M4, ?_⟩
  simp only [Int.reducePow, Int.reduceAdd] at hk
  simp [lb_law_2, e0, e1, e2, e3, e4, ownB_int, pow_int _ hpw, hk, p1, p2, hu, mk21, mk31, mk3, own_eq]
theorem law_true : ∀ ns : List Int, ns.length ≤ 63 → ∃ m', d_law [.lst (ns.map .int)] [] = .ok (.bl true) m' := by
  intro ns hl
  rw [ils_eq]
  have hr : ∃ k : Nat, iRg1 (aCons (eCallB maxD (aCons (eC (.int 1)) (aCons (eCallB minD (aCons (eCallB lenD (aCons (eVar 0) aNil)) (aCons (eC (.int 20)) aNil))) aNil))) aNil) [some (.lst (ils ns)), none, none, none, none, none, none, none, none, none, none] [] = .ok ⟨rngI 0 k, []⟩ [] := by
    refine ⟨_, iRg1_ap _ _ _ (n := if (if (20 : Int) < ns.length then 20 else (ns.length : Int)) > 1 then (if (20 : Int) < ns.length then 20 else (ns.length : Int)) else 1) (by simp) ?_ ?_⟩
    · split <;> split <;> omega
    · split <;> split <;> omega
  obtain ⟨k, hr⟩ := hr
  obtain ⟨e', m', h1, y1, y2, y3, y4, y5, y6, y7, y8, y9, rfl⟩ := forL_inv (src := rngI 0 k) (g := gNm 1) (b := lb_law_2) (fun i e _ => ∃ y1 y2 y3 y4 y5 y6 y7 y8 y9, e = [some (.lst (ils ns)), y1, y2, y3, y4, y5, y6, y7, y8, y9, none]) (rngI 0 k) 0 [some (.lst (ils ns)), none, none, none, none, none, none, none, none, none, none] []
    ⟨none, none, none, none, none, none, none, none, none, rfl⟩ (by
    rintro j d e m' hj ⟨y1, y2, y3, y4, y5, y6, y7, y8, y9, rfl⟩
    have hjs : j < k := by
      have := (List.getElem?_eq_some_iff.mp hj).1
      simpa [rngI] using this
    have hd : d = .int j := by
      simp [rngI, hjs] at hj
      exact hj.symm
    subst hd
    obtain ⟨z2, z3, z4, z5, z6, z7, z8, z9, m2, h⟩ := turn_ok (ns := ns) (t := j) (m := m') (x2 := y2) (x3 := y3) (x4 := y4) (x5 := y5) (x6 := y6) (x7 := y7) (x8 := y8) (x9 := y9)
    exact ⟨_, _, _, m2, rfl, .inl h, _, _, _, _, _, _, _, _, _, rfl⟩)
  have hb : b_law (startD 11 [.lst (ils ns)]) [] = .ok (.rt (.bl true)) m' := by
    simp [b_law, l_law_2, startD, hr, h1]
  by_cases ht : (trimOk [] m' && (D.bl true).und 0) = true
  · exact ⟨_, by simp only [d_law, fnD, scopeM, runB, bind_ap, hb, thn_ok, pure_ap]; exact if_pos ht⟩
  · exact ⟨_, by simp only [d_law, fnD, scopeM, runB, bind_ap, hb, thn_ok, pure_ap]; exact if_neg ht⟩
end LW
namespace LW
open PySem L2 DL PyProof.Rows
def top (i : Nat) : Stmt := PySem.Challenge.pw_leastreads_k01_sums_calculated.main.body.getD i (.Pass ⟨0, 0, 0, 0⟩)
abbrev s_source : Stmt := (top 22)
abbrev s_draw : Stmt := (top 23)
abbrev s_pick : Stmt := (top 24)
abbrev s_form : Stmt := (top 28)
abbrev s_factors : Stmt := (top 27)
abbrev s_Sum_prime : Stmt := (inClass (top 19) 3)
abbrev s_Sum_size : Stmt := (inClass (top 19) 5)
abbrev s_is_sum : Stmt := (top 20)
abbrev s_Sum_require : Stmt := (inClass (top 19) 7)
abbrev s_added : Stmt := (top 8)
abbrev s_is_integer : Stmt := (top 15)
abbrev s_is_prime : Stmt := (top 16)
abbrev s_is_between : Stmt := (top 14)
abbrev s_power : Stmt := (top 10)
abbrev s_is_size : Stmt := (top 17)
abbrev s_is_data : Stmt := (top 18)
abbrev s_Sum_init : Stmt := (inClass (top 19) 1)
abbrev s_Sum_add : Stmt := (inClass (top 19) 9)
abbrev s_Sum_sub : Stmt := (inClass (top 19) 10)
abbrev s_scaled : Stmt := (top 7)
abbrev s_Sum_mul : Stmt := (inClass (top 19) 11)
abbrev s_Sum_factors : Stmt := (inClass (top 19) 4)
abbrev s_Sum_is_zero : Stmt := (inClass (top 19) 6)
abbrev s_all_data : Stmt := (top 25)
abbrev s_value_of : Stmt := (top 9)
abbrev s_Sum_call : Stmt := (inClass (top 19) 8)
abbrev s_value : Stmt := (top 26)
abbrev s_sum_right : Stmt := (top 29)
abbrev s_Sum_neg : Stmt := (inClass (top 19) 12)
abbrev s_Sum_eq : Stmt := (inClass (top 19) 13)
abbrev s_pair_right : Stmt := (top 30)
abbrev s_Sum_unit : Stmt := (inClass (top 19) 2)
abbrev s_law : Stmt := (top 31)
structure Txt (k : Kx) (ad : Nat → Addr) (K : PySem.W.Frag) (mg : Str → Option Value) : Prop where
  f_source : FA K "_law_source" "_law_source" s_source ["_law_script", "_law_turn"] (ad 23)
  m_source : mg "_law_source" = some (.ref (ad 23))
  f_draw : FA K "_law_draw" "_law_draw" s_draw ["_law_source_here", "_law_amount"] (ad 24)
  m_draw : mg "_law_draw" = some (.ref (ad 24))
  f_pick : FA K "_law_pick" "_law_pick" s_pick ["_law_source_here", "_law_items"] (ad 25)
  m_pick : mg "_law_pick" = some (.ref (ad 25))
  f_form : FA K "_law_form" "_law_form" s_form ["_law_source_here"] (ad 29)
  m_form : mg "_law_form" = some (.ref (ad 29))
  f_factors : FA K "_law_factors" "_law_factors" s_factors ["_law_source_here", "_law_prime", "_law_size"] (ad 28)
  m_factors : mg "_law_factors" = some (.ref (ad 28))
  f_Sum_prime : FA K "prime" "Sum.prime" s_Sum_prime ["self"] (ad 11)
  f_Sum_size : FA K "size" "Sum.size" s_Sum_size ["self"] (ad 13)
  f_is_sum : FA K "is_sum" "is_sum" s_is_sum ["value", "prime", "size"] (ad 22)
  m_is_sum : mg "is_sum" = some (.ref (ad 22))
  f_Sum_require : FA K "require" "Sum.require" s_Sum_require ["self", "other"] (ad 15)
  f_added : FA K "added" "added" s_added ["row", "other", "factor", "prime"] (ad 1)
  m_added : mg "added" = some (.ref (ad 1))
  f_is_integer : FA K "is_integer" "is_integer" s_is_integer ["value"] (ad 5)
  m_is_integer : mg "is_integer" = some (.ref (ad 5))
  f_is_prime : FA K "is_prime" "is_prime" s_is_prime ["value"] (ad 6)
  m_is_prime : mg "is_prime" = some (.ref (ad 6))
  f_is_between : FA K "is_between" "is_between" s_is_between ["value", "low", "high"] (ad 4)
  m_is_between : mg "is_between" = some (.ref (ad 4))
  f_power : FA K "power" "power" s_power ["base", "exponent"] (ad 3)
  m_power : mg "power" = some (.ref (ad 3))
  f_is_size : FA K "is_size" "is_size" s_is_size ["prime", "value"] (ad 7)
  m_is_size : mg "is_size" = some (.ref (ad 7))
  f_is_data : FA K "is_data" "is_data" s_is_data ["prime", "size", "value"] (ad 8)
  m_is_data : mg "is_data" = some (.ref (ad 8))
  f_Sum_init : FA K "__init__" "Sum.__init__" s_Sum_init ["self", "prime", "factors"] (ad 9)
  f_Sum_add : FA K "__add__" "Sum.__add__" s_Sum_add ["self", "other"] (ad 17)
  f_Sum_sub : FA K "__sub__" "Sum.__sub__" s_Sum_sub ["self", "other"] (ad 18)
  f_scaled : FA K "scaled" "scaled" s_scaled ["row", "factor", "prime"] (ad 0)
  m_scaled : mg "scaled" = some (.ref (ad 0))
  f_Sum_mul : FA K "__mul__" "Sum.__mul__" s_Sum_mul ["self", "number"] (ad 19)
  f_Sum_factors : FA K "factors" "Sum.factors" s_Sum_factors ["self"] (ad 12)
  f_Sum_is_zero : FA K "is_zero" "Sum.is_zero" s_Sum_is_zero ["self"] (ad 14)
  f_all_data : FA K "_law_all_data" "_law_all_data" s_all_data ["_law_prime", "_law_size"] (ad 26)
  m_all_data : mg "_law_all_data" = some (.ref (ad 26))
  f_value_of : FA K "value_of" "value_of" s_value_of ["row", "data", "prime"] (ad 2)
  m_value_of : mg "value_of" = some (.ref (ad 2))
  f_Sum_call : FA K "__call__" "Sum.__call__" s_Sum_call ["self", "data"] (ad 16)
  f_value : FA K "_law_value" "_law_value" s_value ["_law_factors_here", "_law_data", "_law_prime"] (ad 27)
  m_value : mg "_law_value" = some (.ref (ad 27))
  f_sum_right : FA K "_law_sum_right" "_law_sum_right" s_sum_right ["_law_one", "_law_factors_here", "_law_prime"] (ad 30)
  m_sum_right : mg "_law_sum_right" = some (.ref (ad 30))
  f_Sum_neg : FA K "__neg__" "Sum.__neg__" s_Sum_neg ["self"] (ad 20)
  f_Sum_eq : FA K "__eq__" "Sum.__eq__" s_Sum_eq ["self", "other"] (ad 21)
  f_pair_right : FA K "_law_pair_right" "_law_pair_right" s_pair_right ["_law_prime", "_law_one", "_law_other", "_law_number"] (ad 31)
  m_pair_right : mg "_law_pair_right" = some (.ref (ad 31))
  f_Sum_unit : FA K "unit" "Sum.unit" s_Sum_unit ["cls", "prime", "size", "index"] (ad 10)
  f_law : FA K "law" "law" s_law ["_law_script"] (ad 32)
  m_law : mg "law" = some (.ref (ad 32))
  cl_0 : SlX.SCls K (k.cl 0)
  cm_0_unit : ∃ p, ClX.CMet K (k.cl 0) (.type "type") "unit" p (ad 10)
  co_0 : StX.CallO K (k.cl 0) (ad 16)
  crd_0 : ClX.CRead K (k.cl 0) (.type "type")
  g_MOST_DATA : GlD k K mg "MOST_DATA" (.int 4096)
  g_PRIMES : GlD k K mg "PRIMES" (.tup (([2, 3, 5, 7] : List Int).map .int))
  g_Sum : mg "Sum" = some (.ref (k.cl 0))
  i1_0_Add : ∃ fo, PySem.W.findIn K (.type "int") (PySem.dunder (Operator.Add).info.2) = some fo
  i1_0_Mult : ∃ fo, PySem.W.findIn K (.type "int") (PySem.dunder (Operator.Mult).info.2) = some fo
  i1_0_Sub : ∃ fo, PySem.W.findIn K (.type "int") (PySem.dunder (Operator.Sub).info.2) = some fo
  i2_0_Add : ∃ fo, PySem.W.findIn K (.type "int") (dunderR (Operator.Add).info.2) = some fo
  i2_0_Mult : ∃ fo, PySem.W.findIn K (.type "int") (dunderR (Operator.Mult).info.2) = some fo
  i2_0_Sub : ∃ fo, PySem.W.findIn K (.type "int") (dunderR (Operator.Sub).info.2) = some fo
  i3_0 : PySem.W.subIn K (.type "int") (.ref (k.cl 0)) = some false
  is_0 : SlX.SIsi K (k.cl 0)
  kas_0 : PySem.W.kitAny K (.ref (k.cl 0)) [.type "list", .type "tuple"] = some false
  kb_0 : ∀ kd, (∀ c, kd ≠ .obj c) → PySem.W.kitOne K (.type (nmK kd)) (.ref (k.cl 0)) = some (isK (.cls 0) kd)
  ki_0_0 : PySem.W.kitOne K (.ref (k.cl 0)) (.ref (k.cl 0)) = some true
  ki_0_bool : PySem.W.kitOne K (.ref (k.cl 0)) (.type "bool") = some false
  ki_0_int : PySem.W.kitOne K (.ref (k.cl 0)) (.type "int") = some false
  me_0_add : Meth K (k.cl 0) "__add__" (ad 17)
  me_0_eq : Meth K (k.cl 0) "__eq__" (ad 21)
  me_0_mul : Meth K (k.cl 0) "__mul__" (ad 19)
  me_0_neg : Meth K (k.cl 0) "__neg__" (ad 20)
  me_0_sub : Meth K (k.cl 0) "__sub__" (ad 18)
  me_0_require : Meth K (k.cl 0) "require" (ad 15)
  mk_0 : Mk K (k.cl 0) (ad 9)
  nb_0 : ∀ kd, (∀ c, kd ≠ .obj c) → PySem.W.notFirst K (k.cl 0) (.type (nmK kd)) = true
  ne_0 : PySem.W.findIn K (.ref (k.cl 0)) "__ne__" = some (some (.builtin "object.__ne__"))
  nf_0_0 : PySem.W.notFirst K (k.cl 0) (.ref (k.cl 0)) = true
  pr_0_factors : PrA K (k.cl 0) "factors" (ad 12)
  pr_0_is_zero : PrA K (k.cl 0) "is_zero" (ad 14)
  pr_0_prime : PrA K (k.cl 0) "prime" (ad 11)
  pr_0_size : PrA K (k.cl 0) "size" (ad 13)
  rc_0_Add : PySem.W.findIn K (.ref (k.cl 0)) (dunderR (Operator.Add).info.2) = some none
  rc_0_Mult : PySem.W.findIn K (.ref (k.cl 0)) (dunderR (Operator.Mult).info.2) = some none
  rc_0_Sub : PySem.W.findIn K (.ref (k.cl 0)) (dunderR (Operator.Sub).info.2) = some none
  sf_0 : PySem.W.selfFirst K (k.cl 0) = true
  sl_0_own_prime : ∃ p, SlX.Slot1 K (k.cl 0) "own_prime" p 0
  sl_0_row : ∃ p, SlX.Slot1 K (k.cl 0) "row" p 1
  z_all : mg "all" = none
  z_any : mg "any" = none
  z_bool : mg "bool" = none
  z_int : mg "int" = none
  z_isinstance : mg "isinstance" = none
  z_len : mg "len" = none
  z_list : mg "list" = none
  z_max : mg "max" = none
  z_min : mg "min" = none
  z_range : mg "range" = none
  z_sum : mg "sum" = none
  z_tuple : mg "tuple" = none
  z_zip : mg "zip" = none
section
variable {P : Program} {w : World} {k : Kx} {ad : Nat → Addr} {K : PySem.W.Frag} {mg : Str → Option Value} {base : Heap}
theorem sc_source : FnScope ["_law_script", "_law_turn", "_law_cell", "_law_number", "_law_seed"] ["_law_script", "_law_turn"] (defScope s_source) := ⟨rfl, rfl, rfl, by decide +kernel, rfl, by decide +kernel, by decide +kernel⟩
theorem ok_source (T : Txt k ad K mg) : FnR P w K mg base (L2.CX P w) 1 (ad 23) (spD k K 2 d_source) :=
  fnr_ok (N := ["_law_script", "_law_turn", "_law_cell", "_law_number", "_law_seed"]) (ps := ["_law_script", "_law_turn"]) (lvl := 0) (m := b_source) T.f_source sc_source (fun cdv A outer s H E hr =>
  (jb_cons (js_set 2 sc_source.nd rfl (by first | exact Or.inl rfl | exact Or.inr rfl) j_int)
  (jb_cons (js_if (jt_cmp (b_lt hr.units0) (j_var 1) (j_callB f_len rfl T.z_len (by decide +kernel) (ja_cons (j_var 0) ja_nil)) (nomark _)) (jb_one (js_set 2 sc_source.nd rfl (by first | exact Or.inl rfl | exact Or.inr rfl) (j_ix (j_var 0) (j_var 1) (fun _ _ => rfl)))) jb_nil)
  (jb_cons (js_set 3 sc_source.nd rfl (by first | exact Or.inl rfl | exact Or.inr rfl) (j_callB (f_max rfl) rfl T.z_max (by decide +kernel) (ja_cons (j_var 2) (ja_cons (j_op b_sub (j_un u_neg j_int) (j_var 2)) ja_nil))))
  (jb_cons (js_set 4 sc_source.nd rfl (by first | exact Or.inl rfl | exact Or.inr rfl) (j_op b_mod (j_callTy f_int rfl T.z_int (by decide +kernel) (ja_cons (j_op b_add (j_op b_add (j_op b_mul (j_op b_mod (j_callTy f_int rfl T.z_int (by decide +kernel) (ja_cons (j_var 3) ja_nil)) j_int) j_int) (j_op b_mul j_int (j_var 1))) j_int) ja_nil)) j_int))
  (jb_cons (js_if (jt_cmp (b_lt hr.units0) (j_var 3) (j_op b_pow j_int j_int) (nomark _)) (jb_one (js_set 3 sc_source.nd rfl (by first | exact Or.inl rfl | exact Or.inr rfl) j_int)) jb_nil)
  (jb_one (js_ret (j_lstM (ja_cons (j_var 3) (ja_cons (j_var 4) ja_nil)))))))))))
theorem sc_draw : FnScope ["_law_source_here", "_law_amount", "_law_digit"] ["_law_source_here", "_law_amount"] (defScope s_draw) := ⟨rfl, rfl, rfl, by decide +kernel, rfl, by decide +kernel, by decide +kernel⟩
theorem ok_draw (T : Txt k ad K mg) : FnR P w K mg base (L2.CX P w) 1 (ad 24) (spD k K 2 d_draw) :=
  fnr_ok (N := ["_law_source_here", "_law_amount", "_law_digit"]) (ps := ["_law_source_here", "_law_amount"]) (lvl := 0) (m := b_draw) T.f_draw sc_draw (fun cdv A outer s H E hr =>
  (jb_cons (js_if (jt_cmp b_gt (j_ix (j_var 0) j_int (fun _ _ => rfl)) j_int (nomark _)) (jb_cons (js_set 2 sc_draw.nd rfl (by first | exact Or.inl rfl | exact Or.inr rfl) (j_op b_mod (j_callTy f_int rfl T.z_int (by decide +kernel) (ja_cons (j_ix (j_var 0) j_int (fun _ _ => rfl)) ja_nil)) (j_var 1)))
  (jb_cons (js_setIx (j_op b_fdv (j_ix (j_var 0) j_int (fun _ _ => rfl)) (j_var 1)) (j_var 0) j_int)
  (jb_one (js_ret (j_var 2))))) jb_nil)
  (jb_cons (js_setIx (j_op b_mod (j_callTy f_int rfl T.z_int (by decide +kernel) (ja_cons (j_op b_add (j_op b_mul (j_ix (j_var 0) j_int (fun _ _ => rfl)) j_int) j_int) ja_nil)) j_int) (j_var 0) j_int)
  (jb_one (js_ret (j_op b_mod (j_callTy f_int rfl T.z_int (by decide +kernel) (ja_cons (j_op b_fdv (j_op b_mod (j_callTy f_int rfl T.z_int (by decide +kernel) (ja_cons (j_op b_mul (j_ix (j_var 0) j_int (fun _ _ => rfl)) (j_ix (j_var 0) j_int (fun _ _ => rfl))) ja_nil)) j_int) j_int) ja_nil)) (j_var 1)))))))
theorem sc_pick : FnScope ["_law_source_here", "_law_items"] ["_law_source_here", "_law_items"] (defScope s_pick) := ⟨rfl, rfl, rfl, by decide +kernel, rfl, by decide +kernel, by decide +kernel⟩
theorem ok_pick (T : Txt k ad K mg) : FnR P w K mg base (L2.CX P w) 2 (ad 25) (spD k K 2 d_pick) :=
  fnr_ok (N := ["_law_source_here", "_law_items"]) (ps := ["_law_source_here", "_law_items"]) (lvl := 1) (m := b_pick) T.f_pick sc_pick (fun cdv A outer s H E hr =>
  (jb_one (js_ret (j_ix (j_var 1) (j_call (ok_draw (P := P) (w := w) (base := base) T) (hr.mono (by decide)) pass_def rfl T.m_draw T.f_draw.kp (ja_cons (j_var 0) (ja_cons (j_callB f_len rfl T.z_len (by decide +kernel) (ja_cons (j_var 1) ja_nil)) ja_nil))) (fun _ _ => rfl)))))
theorem sc_form : FnScope ["_law_source_here"] ["_law_source_here"] (defScope s_form) := ⟨rfl, rfl, rfl, by decide +kernel, rfl, by decide +kernel, by decide +kernel⟩
theorem ok_form (T : Txt k ad K mg) : FnR P w K mg base (L2.CX P w) 3 (ad 29) (spD k K 1 d_form) :=
  fnr_ok (N := ["_law_source_here"]) (ps := ["_law_source_here"]) (lvl := 2) (m := b_form) T.f_form sc_form (fun cdv A outer s H E hr =>
  (jb_one (js_ret (j_call (ok_pick (P := P) (w := w) (base := base) T) (hr.mono (by decide)) pass_def rfl T.m_pick T.f_pick.kp (ja_cons (j_var 0) (ja_cons (j_lst (ja_cons (j_tup (ja_cons j_int (ja_cons j_int ja_nil))) (ja_cons (j_tup (ja_cons j_int (ja_cons j_int ja_nil))) (ja_cons (j_tup (ja_cons j_int (ja_cons j_int ja_nil))) (ja_cons (j_tup (ja_cons j_int (ja_cons j_int ja_nil))) (ja_cons (j_tup (ja_cons j_int (ja_cons j_int ja_nil))) (ja_cons (j_tup (ja_cons j_int (ja_cons j_int ja_nil))) (ja_cons (j_tup (ja_cons j_int (ja_cons j_int ja_nil))) (ja_cons (j_tup (ja_cons j_int (ja_cons j_int ja_nil))) (ja_cons (j_tup (ja_cons j_int (ja_cons j_int ja_nil))) ja_nil)))))))))) ja_nil))))))
theorem sc_factors : FnScope ["_law_source_here", "_law_prime", "_law_size", "_law_place"] ["_law_source_here", "_law_prime", "_law_size"] (defScope s_factors) := ⟨rfl, rfl, rfl, by decide +kernel, rfl, by decide +kernel, by decide +kernel⟩
theorem ok_factors (T : Txt k ad K mg) : FnR P w K mg base (L2.CX P w) 2 (ad 28) (spD k K 3 d_factors) :=
  fnr_ok (N := ["_law_source_here", "_law_prime", "_law_size", "_law_place"]) (ps := ["_law_source_here", "_law_prime", "_law_size"]) (lvl := 1) (m := b_factors) T.f_factors sc_factors (fun cdv A outer s H E hr =>
  (jb_one (js_ret (j_callTy f_tuple rfl T.z_tuple (by decide +kernel) (ja_cons (j_comp (own := [("_law_place", 3)]) (by decide) rfl sc_factors.nd (ji_range1 rfl T.z_range (ja_cons (j_var 2) ja_nil)) (blkOk_by (N := ["_law_source_here", "_law_prime", "_law_size", "_law_place"]) (sc := defScope s_factors) (by decide +kernel)) (fun _ _ _ _ _ => (jg_name 3 sc_factors.nd rfl (by first | exact Or.inl rfl | exact Or.inr rfl))) (fun _ _ _ _ _ => jts_nil) (fun _ _ _ _ _ => (j_call (ok_draw (P := P) (w := w) (base := base) T) (hr.mono (by decide)) passL rfl T.m_draw T.f_draw.kp (ja_cons (j_var 0) (ja_cons (j_var 1) ja_nil))))) ja_nil)))))
theorem sc_Sum_prime : FnScope ["self"] ["self"] (defScope s_Sum_prime) := ⟨rfl, rfl, rfl, by decide +kernel, rfl, by decide +kernel, by decide +kernel⟩
theorem ok_Sum_prime (T : Txt k ad K mg) : FnR P w K mg base (L2.CX P w) 1 (ad 11) (spD k K 1 d_Sum_prime) :=
  fnr_ok (N := ["self"]) (ps := ["self"]) (lvl := 0) (m := b_Sum_prime) T.f_Sum_prime sc_Sum_prime (fun cdv A outer s H E hr =>
  (jb_one (js_ret (j_attr (tab := [(0, .slot 0)]) ⟨⟨T.cl_0, T.sl_0_own_prime⟩, trivial⟩ (j_var 0)))))
theorem sc_Sum_size : FnScope ["self"] ["self"] (defScope s_Sum_size) := ⟨rfl, rfl, rfl, by decide +kernel, rfl, by decide +kernel, by decide +kernel⟩
theorem ok_Sum_size (T : Txt k ad K mg) : FnR P w K mg base (L2.CX P w) 1 (ad 13) (spD k K 1 d_Sum_size) :=
  fnr_ok (N := ["self"]) (ps := ["self"]) (lvl := 0) (m := b_Sum_size) T.f_Sum_size sc_Sum_size (fun cdv A outer s H E hr =>
  (jb_one (js_ret (j_callB f_len rfl T.z_len (by decide +kernel) (ja_cons (j_attr (tab := [(0, .slot 1)]) ⟨⟨T.cl_0, T.sl_0_row⟩, trivial⟩ (j_var 0)) ja_nil)))))
theorem sc_is_sum : FnScope ["value", "prime", "size"] ["value", "prime", "size"] (defScope s_is_sum) := ⟨rfl, rfl, rfl, by decide +kernel, rfl, by decide +kernel, by decide +kernel⟩
theorem ok_is_sum (T : Txt k ad K mg) : FnR P w K mg base (L2.CX P w) 3 (ad 22) (spD k K 3 d_is_sum) :=
  fnr_ok (N := ["value", "prime", "size"]) (ps := ["value", "prime", "size"]) (lvl := 2) (m := b_is_sum) T.f_is_sum sc_is_sum (fun cdv A outer s H E hr =>
  (jb_one (js_ret (j_and (j_isi (cs := [0]) (t := .cls 0) (u := .ref (k.cl 0)) (c := .ref (k.cl 0)) (te := tC (.ref (k.cl 0))) ⟨(in_cons ⟨T.cl_0, T.is_0, T.ki_0_0⟩ in_nil), T.kb_0⟩ rfl (fun _ h => h) (.own _) rfl T.z_isinstance (j_var 0) (pe_glob rfl T.g_Sum rfl)) (j_and (j_cmp (b_eq hr.units) (j_attr (tab := [(0, .prop d_Sum_prime)]) ⟨prop_at (T.cl_0) T.pr_0_prime (ok_Sum_prime (P := P) (w := w) (base := base) T) (hr.mono (by decide)), trivial⟩ (j_var 0)) (j_var 1) (nomark _)) (j_one (j_cmp (b_eq hr.units) (j_attr (tab := [(0, .prop d_Sum_size)]) ⟨prop_at (T.cl_0) T.pr_0_size (ok_Sum_size (P := P) (w := w) (base := base) T) (hr.mono (by decide)), trivial⟩ (j_var 0)) (j_var 2) (nomark _))))))))
theorem sc_Sum_require : FnScope ["self", "other"] ["self", "other"] (defScope s_Sum_require) := ⟨rfl, rfl, rfl, by decide +kernel, rfl, by decide +kernel, by decide +kernel⟩
theorem ok_Sum_require (T : Txt k ad K mg) : FnR P w K mg base (L2.CX P w) 4 (ad 15) (spD k K 2 d_Sum_require) :=
  fnr_ok (N := ["self", "other"]) (ps := ["self", "other"]) (lvl := 3) (m := b_Sum_require) T.f_Sum_require sc_Sum_require (fun cdv A outer s H E hr =>
  (jb_one (js_if (jt_not (jt_val (j_call (ok_is_sum (P := P) (w := w) (base := base) T) (hr.mono (by decide)) pass_def rfl T.m_is_sum T.f_is_sum.kp (ja_cons (j_var 1) (ja_cons (j_attr (tab := [(0, .slot 0)]) ⟨⟨T.cl_0, T.sl_0_own_prime⟩, trivial⟩ (j_var 0)) (ja_cons (j_callB f_len rfl T.z_len (by decide +kernel) (ja_cons (j_attr (tab := [(0, .slot 1)]) ⟨⟨T.cl_0, T.sl_0_row⟩, trivial⟩ (j_var 0)) ja_nil)) ja_nil)))))) (jb_one js_bad) jb_nil)))
theorem sc_added : FnScope ["row", "other", "factor", "prime", "one", "two"] ["row", "other", "factor", "prime"] (defScope s_added) := ⟨rfl, rfl, rfl, by decide +kernel, rfl, by decide +kernel, by decide +kernel⟩
theorem ok_added (T : Txt k ad K mg) : FnR P w K mg base (L2.CX P w) 1 (ad 1) (spD k K 4 d_added) :=
  fnr_ok (N := ["row", "other", "factor", "prime", "one", "two"]) (ps := ["row", "other", "factor", "prime"]) (lvl := 0) (m := b_added) T.f_added sc_added (fun cdv A outer s H E hr =>
  (jb_one (js_ret (j_callTy f_tuple rfl T.z_tuple (by decide +kernel) (ja_cons (j_comp (own := [("one", 4), ("two", 5)]) (by decide) rfl sc_added.nd (ji_zipK rfl T.z_zip (ja_cons (j_var 0) (ja_cons (j_var 1) ja_nil))) (blkOk_by (N := ["row", "other", "factor", "prime", "one", "two"]) (sc := defScope s_added) (by decide +kernel)) (fun _ _ _ _ _ => (jg_tup rfl (jgs_cons (jg_name 4 sc_added.nd rfl (by first | exact Or.inl rfl | exact Or.inr rfl)) (jgs_cons (jg_name 5 sc_added.nd rfl (by first | exact Or.inl rfl | exact Or.inr rfl)) jgs_nil)))) (fun _ _ _ _ _ => jts_nil) (fun _ _ _ _ _ => (j_op b_mod (j_op b_add (j_var 4) (j_op b_mul (j_var 2) (j_var 5))) (j_var 3)))) ja_nil)))))
theorem sc_is_integer : FnScope ["value"] ["value"] (defScope s_is_integer) := ⟨rfl, rfl, rfl, by decide +kernel, rfl, by decide +kernel, by decide +kernel⟩
theorem ok_is_integer (T : Txt k ad K mg) : FnR P w K mg base (L2.CX P w) 1 (ad 5) (spD k K 1 d_is_integer) :=
  fnr_ok (N := ["value"]) (ps := ["value"]) (lvl := 0) (m := b_is_integer) T.f_is_integer sc_is_integer (fun cdv A outer s H E hr =>
  (jb_one (js_ret (j_and (j_isi (cs := [0]) (t := .int) (u := .type "int") (c := .ty "int") (te := tC (.ty "int")) ⟨(in_cons ⟨T.cl_0, T.is_0, T.ki_0_int⟩ in_nil), kit_bu .int (by simp)⟩ rfl (fun _ h => h) (.ty _) rfl T.z_isinstance (j_var 0) (pe_bltn rfl T.z_int (by decide +kernel) rfl)) (j_one (j_not (j_isi (cs := [0]) (t := .bool) (u := .type "bool") (c := .ty "bool") (te := tC (.ty "bool")) ⟨(in_cons ⟨T.cl_0, T.is_0, T.ki_0_bool⟩ in_nil), kit_bu .bool (by simp)⟩ rfl (fun _ h => h) (.ty _) rfl T.z_isinstance (j_var 0) (pe_bltn rfl T.z_bool (by decide +kernel) rfl))))))))
theorem sc_is_prime : FnScope ["value"] ["value"] (defScope s_is_prime) := ⟨rfl, rfl, rfl, by decide +kernel, rfl, by decide +kernel, by decide +kernel⟩
theorem ok_is_prime (T : Txt k ad K mg) : FnR P w K mg base (L2.CX P w) 2 (ad 6) (spD k K 1 d_is_prime) :=
  fnr_ok (N := ["value"]) (ps := ["value"]) (lvl := 1) (m := b_is_prime) T.f_is_prime sc_is_prime (fun cdv A outer s H E hr =>
  (jb_one (js_ret (j_and (j_call (ok_is_integer (P := P) (w := w) (base := base) T) (hr.mono (by decide)) pass_def rfl T.m_is_integer T.f_is_integer.kp (ja_cons (j_var 0) ja_nil)) (j_one (j_cmp (b_in (hr_un65 hr)) (j_var 0) (j_globD T.g_PRIMES rfl) (by with_unfolding_all rfl)))))))
theorem sc_is_between : FnScope ["value", "low", "high"] ["value", "low", "high"] (defScope s_is_between) := ⟨rfl, rfl, rfl, by decide +kernel, rfl, by decide +kernel, by decide +kernel⟩
theorem ok_is_between (T : Txt k ad K mg) : FnR P w K mg base (L2.CX P w) 1 (ad 4) (spD k K 3 d_is_between) :=
  fnr_ok (N := ["value", "low", "high"]) (ps := ["value", "low", "high"]) (lvl := 0) (m := b_is_between) T.f_is_between sc_is_between (fun cdv A outer s H E hr =>
  (jb_one (js_ret (j_and (j_isi (cs := [0]) (t := .int) (u := .type "int") (c := .ty "int") (te := tC (.ty "int")) ⟨(in_cons ⟨T.cl_0, T.is_0, T.ki_0_int⟩ in_nil), kit_bu .int (by simp)⟩ rfl (fun _ h => h) (.ty _) rfl T.z_isinstance (j_var 0) (pe_bltn rfl T.z_int (by decide +kernel) rfl)) (j_and (j_not (j_isi (cs := [0]) (t := .bool) (u := .type "bool") (c := .ty "bool") (te := tC (.ty "bool")) ⟨(in_cons ⟨T.cl_0, T.is_0, T.ki_0_bool⟩ in_nil), kit_bu .bool (by simp)⟩ rfl (fun _ h => h) (.ty _) rfl T.z_isinstance (j_var 0) (pe_bltn rfl T.z_bool (by decide +kernel) rfl))) (j_one (j_chain b_le b_le (j_var 1) (j_var 0) (j_var 2))))))))
theorem sc_power : FnScope ["base", "exponent", "found", "index"] ["base", "exponent"] (defScope s_power) := ⟨rfl, rfl, rfl, by decide +kernel, rfl, by decide +kernel, by decide +kernel⟩
theorem ok_power (T : Txt k ad K mg) : FnR P w K mg base (L2.CX P w) 1 (ad 3) (spD k K 2 d_power) :=
  fnr_ok (N := ["base", "exponent", "found", "index"]) (ps := ["base", "exponent"]) (lvl := 0) (m := b_power) T.f_power sc_power (fun cdv A outer s H E hr =>
  (jb_cons (js_set 2 sc_power.nd rfl (by first | exact Or.inl rfl | exact Or.inr rfl) j_int)
  (jb_cons (js_for (passes_of rfl) rfl (ji_range1 rfl T.z_range (ja_cons (j_var 1) ja_nil)) (jg_name 3 sc_power.nd rfl (by first | exact Or.inl rfl | exact Or.inr rfl))
  (jb_one (js_set 2 sc_power.nd rfl (by first | exact Or.inl rfl | exact Or.inr rfl) (j_op b_mul (j_var 2) (j_var 0)))))
  (jb_one (js_ret (j_var 2))))))
theorem sc_is_size : FnScope ["prime", "value"] ["prime", "value"] (defScope s_is_size) := ⟨rfl, rfl, rfl, by decide +kernel, rfl, by decide +kernel, by decide +kernel⟩
theorem ok_is_size (T : Txt k ad K mg) : FnR P w K mg base (L2.CX P w) 3 (ad 7) (spD k K 2 d_is_size) :=
  fnr_ok (N := ["prime", "value"]) (ps := ["prime", "value"]) (lvl := 2) (m := b_is_size) T.f_is_size sc_is_size (fun cdv A outer s H E hr =>
  (jb_one (js_ret (j_and (j_call (ok_is_prime (P := P) (w := w) (base := base) T) (hr.mono (by decide)) pass_def rfl T.m_is_prime T.f_is_prime.kp (ja_cons (j_var 0) ja_nil)) (j_and (j_call (ok_is_between (P := P) (w := w) (base := base) T) (hr.mono (by decide)) pass_def rfl T.m_is_between T.f_is_between.kp (ja_cons (j_var 1) (ja_cons j_int (ja_cons j_int ja_nil)))) (j_one (j_cmp b_le (j_call (ok_power (P := P) (w := w) (base := base) T) (hr.mono (by decide)) pass_def rfl T.m_power T.f_power.kp (ja_cons (j_var 0) (ja_cons (j_var 1) ja_nil))) (j_globD T.g_MOST_DATA rfl) (nomark _))))))))
theorem sc_is_data : FnScope ["prime", "size", "value", "number"] ["prime", "size", "value"] (defScope s_is_data) := ⟨rfl, rfl, rfl, by decide +kernel, rfl, by decide +kernel, by decide +kernel⟩
theorem ok_is_data (T : Txt k ad K mg) : FnR P w K mg base (L2.CX P w) 4 (ad 8) (spD k K 3 d_is_data) :=
  fnr_ok (N := ["prime", "size", "value", "number"]) (ps := ["prime", "size", "value"]) (lvl := 3) (m := b_is_data) T.f_is_data sc_is_data (fun cdv A outer s H E hr =>
  (jb_cons (js_if (jt_w (jw_or (jt_not (jt_val (j_call (ok_is_size (P := P) (w := w) (base := base) T) (hr.mono (by decide)) pass_def rfl T.m_is_size T.f_is_size.kp (ja_cons (j_var 0) (ja_cons (j_var 1) ja_nil))))) (jw_or (jt_not (jt_val (j_isiS (cs := [0]) ⟨(in_cons ⟨T.cl_0, T.is_0, T.kas_0⟩ in_nil)⟩ rfl T.z_isinstance rfl T.z_list rfl T.z_tuple (j_var 2)))) (jw_or1 (jt_cmp (b_ne hr.units) (j_callB f_len rfl T.z_len (by decide +kernel) (ja_cons (j_var 2) ja_nil)) (j_var 1) (nomark _)))))) (jb_one (js_ret j_bl)) jb_nil)
  (jb_one (js_ret (j_callB (f_all rfl) rfl T.z_all (by decide +kernel) (ja_cons (j_comp (own := [("number", 3)]) (by decide) rfl sc_is_data.nd (ji_seq (j_var 2)) (blkOk_by (N := ["prime", "size", "value", "number"]) (sc := defScope s_is_data) (by decide +kernel)) (fun _ _ _ _ _ => (jg_name 3 sc_is_data.nd rfl (by first | exact Or.inl rfl | exact Or.inr rfl))) (fun _ _ _ _ _ => jts_nil) (fun _ _ _ _ _ => (j_call (ok_is_between (P := P) (w := w) (base := base) T) (hr.mono (by decide)) passL rfl T.m_is_between T.f_is_between.kp (ja_cons (j_var 3) (ja_cons j_int (ja_cons (j_op b_sub (j_var 0) j_int) ja_nil)))))) ja_nil))))))
theorem sc_Sum_init : FnScope ["self", "prime", "factors"] ["self", "prime", "factors"] (defScope s_Sum_init) := ⟨rfl, rfl, rfl, by decide +kernel, rfl, by decide +kernel, by decide +kernel⟩
theorem ok_Sum_init (T : Txt k ad K mg) : FnR P w K mg base (L2.CX P w) 5 (ad 9) (spD k K 3 d_Sum_init) :=
  fnr_ok (N := ["self", "prime", "factors"]) (ps := ["self", "prime", "factors"]) (lvl := 4) (m := b_Sum_init) T.f_Sum_init sc_Sum_init (fun cdv A outer s H E hr =>
  (jb_cons (js_if (jt_not (jt_val (j_call (ok_is_prime (P := P) (w := w) (base := base) T) (hr.mono (by decide)) pass_def rfl T.m_is_prime T.f_is_prime.kp (ja_cons (j_var 1) ja_nil)))) (jb_one js_bad) jb_nil)
  (jb_cons (js_if (jt_w (jw_or (jt_not (jt_val (j_isiS (cs := [0]) ⟨(in_cons ⟨T.cl_0, T.is_0, T.kas_0⟩ in_nil)⟩ rfl T.z_isinstance rfl T.z_list rfl T.z_tuple (j_var 2)))) (jw_or1 (jt_not (jt_val (j_call (ok_is_data (P := P) (w := w) (base := base) T) (hr.mono (by decide)) pass_def rfl T.m_is_data T.f_is_data.kp (ja_cons (j_var 1) (ja_cons (j_callB f_len rfl T.z_len (by decide +kernel) (ja_cons (j_var 2) ja_nil)) (ja_cons (j_var 2) ja_nil))))))))) (jb_one js_bad) jb_nil)
  (jb_cons (js_attr (tab := [(0, 0)]) ⟨⟨T.cl_0, T.sl_0_own_prime⟩, trivial⟩ (j_var 0) (j_var 1))
  (jb_one (js_attr (tab := [(0, 1)]) ⟨⟨T.cl_0, T.sl_0_row⟩, trivial⟩ (j_var 0) (j_callTy f_tuple rfl T.z_tuple (by decide +kernel) (ja_cons (j_var 2) ja_nil))))))))
theorem sc_Sum_add : FnScope ["self", "other"] ["self", "other"] (defScope s_Sum_add) := ⟨rfl, rfl, rfl, by decide +kernel, rfl, by decide +kernel, by decide +kernel⟩
theorem ok_Sum_add (T : Txt k ad K mg) : FnR P w K mg base (L2.CX P w) 7 (ad 17) (spD k K 2 d_Sum_add) :=
  fnr_ok (N := ["self", "other"]) (ps := ["self", "other"]) (lvl := 6) (m := b_Sum_add) T.f_Sum_add sc_Sum_add (fun cdv A outer s H E hr =>
  (jb_cons (js_expr (j_meth (tab := [(0, 2, d_Sum_require)]) ⟨⟨T.cl_0, _, _, T.me_0_require, (ok_Sum_require (P := P) (w := w) (base := base) T), (hr.mono (by decide))⟩, trivial⟩ pass_def (j_var 0) (ja_cons (j_var 1) ja_nil)))
  (jb_one (js_ret (j_make T.mk_0 (ok_Sum_init (P := P) (w := w) (base := base) T) (hr.mono (by decide)) pass_def rfl T.g_Sum (ja_cons (j_attr (tab := [(0, .slot 0)]) ⟨⟨T.cl_0, T.sl_0_own_prime⟩, trivial⟩ (j_var 0)) (ja_cons (j_call (ok_added (P := P) (w := w) (base := base) T) (hr.mono (by decide)) pass_def rfl T.m_added T.f_added.kp (ja_cons (j_attr (tab := [(0, .slot 1)]) ⟨⟨T.cl_0, T.sl_0_row⟩, trivial⟩ (j_var 0)) (ja_cons (j_attr (tab := [(0, .slot 1)]) ⟨⟨T.cl_0, T.sl_0_row⟩, trivial⟩ (j_var 1)) (ja_cons j_int (ja_cons (j_attr (tab := [(0, .slot 0)]) ⟨⟨T.cl_0, T.sl_0_own_prime⟩, trivial⟩ (j_var 0)) ja_nil))))) ja_nil)))))))
theorem sc_Sum_sub : FnScope ["self", "other"] ["self", "other"] (defScope s_Sum_sub) := ⟨rfl, rfl, rfl, by decide +kernel, rfl, by decide +kernel, by decide +kernel⟩
theorem ok_Sum_sub (T : Txt k ad K mg) : FnR P w K mg base (L2.CX P w) 7 (ad 18) (spD k K 2 d_Sum_sub) :=
  fnr_ok (N := ["self", "other"]) (ps := ["self", "other"]) (lvl := 6) (m := b_Sum_sub) T.f_Sum_sub sc_Sum_sub (fun cdv A outer s H E hr =>
  (jb_cons (js_expr (j_meth (tab := [(0, 2, d_Sum_require)]) ⟨⟨T.cl_0, _, _, T.me_0_require, (ok_Sum_require (P := P) (w := w) (base := base) T), (hr.mono (by decide))⟩, trivial⟩ pass_def (j_var 0) (ja_cons (j_var 1) ja_nil)))
  (jb_one (js_ret (j_make T.mk_0 (ok_Sum_init (P := P) (w := w) (base := base) T) (hr.mono (by decide)) pass_def rfl T.g_Sum (ja_cons (j_attr (tab := [(0, .slot 0)]) ⟨⟨T.cl_0, T.sl_0_own_prime⟩, trivial⟩ (j_var 0)) (ja_cons (j_call (ok_added (P := P) (w := w) (base := base) T) (hr.mono (by decide)) pass_def rfl T.m_added T.f_added.kp (ja_cons (j_attr (tab := [(0, .slot 1)]) ⟨⟨T.cl_0, T.sl_0_row⟩, trivial⟩ (j_var 0)) (ja_cons (j_attr (tab := [(0, .slot 1)]) ⟨⟨T.cl_0, T.sl_0_row⟩, trivial⟩ (j_var 1)) (ja_cons (j_un u_neg j_int) (ja_cons (j_attr (tab := [(0, .slot 0)]) ⟨⟨T.cl_0, T.sl_0_own_prime⟩, trivial⟩ (j_var 0)) ja_nil))))) ja_nil)))))))
theorem sc_scaled : FnScope ["row", "factor", "prime", "number"] ["row", "factor", "prime"] (defScope s_scaled) := ⟨rfl, rfl, rfl, by decide +kernel, rfl, by decide +kernel, by decide +kernel⟩
theorem ok_scaled (T : Txt k ad K mg) : FnR P w K mg base (L2.CX P w) 1 (ad 0) (spD k K 3 d_scaled) :=
  fnr_ok (N := ["row", "factor", "prime", "number"]) (ps := ["row", "factor", "prime"]) (lvl := 0) (m := b_scaled) T.f_scaled sc_scaled (fun cdv A outer s H E hr =>
  (jb_one (js_ret (j_callTy f_tuple rfl T.z_tuple (by decide +kernel) (ja_cons (j_comp (own := [("number", 3)]) (by decide) rfl sc_scaled.nd (ji_seq (j_var 0)) (blkOk_by (N := ["row", "factor", "prime", "number"]) (sc := defScope s_scaled) (by decide +kernel)) (fun _ _ _ _ _ => (jg_name 3 sc_scaled.nd rfl (by first | exact Or.inl rfl | exact Or.inr rfl))) (fun _ _ _ _ _ => jts_nil) (fun _ _ _ _ _ => (j_op b_mod (j_op b_mul (j_var 3) (j_var 1)) (j_var 2)))) ja_nil)))))
theorem sc_Sum_mul : FnScope ["self", "number"] ["self", "number"] (defScope s_Sum_mul) := ⟨rfl, rfl, rfl, by decide +kernel, rfl, by decide +kernel, by decide +kernel⟩
theorem ok_Sum_mul (T : Txt k ad K mg) : FnR P w K mg base (L2.CX P w) 7 (ad 19) (spD k K 2 d_Sum_mul) :=
  fnr_ok (N := ["self", "number"]) (ps := ["self", "number"]) (lvl := 6) (m := b_Sum_mul) T.f_Sum_mul sc_Sum_mul (fun cdv A outer s H E hr =>
  (jb_cons (js_if (jt_not (jt_val (j_call (ok_is_integer (P := P) (w := w) (base := base) T) (hr.mono (by decide)) pass_def rfl T.m_is_integer T.f_is_integer.kp (ja_cons (j_var 1) ja_nil)))) (jb_one js_bad) jb_nil)
  (jb_one (js_ret (j_make T.mk_0 (ok_Sum_init (P := P) (w := w) (base := base) T) (hr.mono (by decide)) pass_def rfl T.g_Sum (ja_cons (j_attr (tab := [(0, .slot 0)]) ⟨⟨T.cl_0, T.sl_0_own_prime⟩, trivial⟩ (j_var 0)) (ja_cons (j_call (ok_scaled (P := P) (w := w) (base := base) T) (hr.mono (by decide)) pass_def rfl T.m_scaled T.f_scaled.kp (ja_cons (j_attr (tab := [(0, .slot 1)]) ⟨⟨T.cl_0, T.sl_0_row⟩, trivial⟩ (j_var 0)) (ja_cons (j_var 1) (ja_cons (j_attr (tab := [(0, .slot 0)]) ⟨⟨T.cl_0, T.sl_0_own_prime⟩, trivial⟩ (j_var 0)) ja_nil)))) ja_nil)))))))
theorem sc_Sum_factors : FnScope ["self"] ["self"] (defScope s_Sum_factors) := ⟨rfl, rfl, rfl, by decide +kernel, rfl, by decide +kernel, by decide +kernel⟩
theorem ok_Sum_factors (T : Txt k ad K mg) : FnR P w K mg base (L2.CX P w) 1 (ad 12) (spD k K 1 d_Sum_factors) :=
  fnr_ok (N := ["self"]) (ps := ["self"]) (lvl := 0) (m := b_Sum_factors) T.f_Sum_factors sc_Sum_factors (fun cdv A outer s H E hr =>
  (jb_one (js_ret (j_attr (tab := [(0, .slot 1)]) ⟨⟨T.cl_0, T.sl_0_row⟩, trivial⟩ (j_var 0)))))
theorem sc_Sum_is_zero : FnScope ["self"] ["self"] (defScope s_Sum_is_zero) := ⟨rfl, rfl, rfl, by decide +kernel, rfl, by decide +kernel, by decide +kernel⟩
theorem ok_Sum_is_zero (T : Txt k ad K mg) : FnR P w K mg base (L2.CX P w) 1 (ad 14) (spD k K 1 d_Sum_is_zero) :=
  fnr_ok (N := ["self"]) (ps := ["self"]) (lvl := 0) (m := b_Sum_is_zero) T.f_Sum_is_zero sc_Sum_is_zero (fun cdv A outer s H E hr =>
  (jb_one (js_ret (j_not (j_callB (f_any rfl) rfl T.z_any (by decide +kernel) (ja_cons (j_attr (tab := [(0, .slot 1)]) ⟨⟨T.cl_0, T.sl_0_row⟩, trivial⟩ (j_var 0)) ja_nil))))))
theorem sc_all_data : FnScope ["_law_prime", "_law_size", "_law_found", "_law_place", "_law_longer", "_law_data", "_law_value_here"] ["_law_prime", "_law_size"] (defScope s_all_data) := ⟨rfl, rfl, rfl, by decide +kernel, rfl, by decide +kernel, by decide +kernel⟩
theorem ok_all_data (T : Txt k ad K mg) : FnR P w K mg base (L2.CX P w) 1 (ad 26) (spD k K 2 d_all_data) :=
  fnr_ok (N := ["_law_prime", "_law_size", "_law_found", "_law_place", "_law_longer", "_law_data", "_law_value_here"]) (ps := ["_law_prime", "_law_size"]) (lvl := 0) (m := b_all_data) T.f_all_data sc_all_data (fun cdv A outer s H E hr =>
  (jb_cons (js_set 2 sc_all_data.nd rfl (by first | exact Or.inl rfl | exact Or.inr rfl) (j_lst (ja_cons (j_tup ja_nil) ja_nil)))
  (jb_cons (js_for (passes_of rfl) rfl (ji_range1 rfl T.z_range (ja_cons (j_var 1) ja_nil)) (jg_name 3 sc_all_data.nd rfl (by first | exact Or.inl rfl | exact Or.inr rfl))
  (jb_cons (js_set 4 sc_all_data.nd rfl (by first | exact Or.inl rfl | exact Or.inr rfl) (j_lst ja_nil))
  (jb_cons (js_for (passes_of rfl) rfl (ji_seq (j_var 2)) (jg_name 5 sc_all_data.nd rfl (by first | exact Or.inl rfl | exact Or.inr rfl))
  (jb_one (js_set 4 sc_all_data.nd rfl (by first | exact Or.inl rfl | exact Or.inr rfl) (j_op b_add (j_var 4) (j_comp (own := [("_law_value_here", 6)]) (by decide) rfl sc_all_data.nd (ji_range1 rfl T.z_range (ja_cons (j_var 0) ja_nil)) (blkOk_by (N := ["_law_prime", "_law_size", "_law_found", "_law_place", "_law_longer", "_law_data", "_law_value_here"]) (sc := defScope s_all_data) (by decide +kernel)) (fun _ _ _ _ _ => (jg_name 6 sc_all_data.nd rfl (by first | exact Or.inl rfl | exact Or.inr rfl))) (fun _ _ _ _ _ => jts_nil) (fun _ _ _ _ _ => (j_op b_add (j_var 5) (j_tup (ja_cons (j_var 6) ja_nil)))))))))
  (jb_one (js_set 2 sc_all_data.nd rfl (by first | exact Or.inl rfl | exact Or.inr rfl) (j_var 4))))))
  (jb_one (js_ret (j_var 2))))))
theorem sc_value_of : FnScope ["row", "data", "prime", "factor", "value"] ["row", "data", "prime"] (defScope s_value_of) := ⟨rfl, rfl, rfl, by decide +kernel, rfl, by decide +kernel, by decide +kernel⟩
theorem ok_value_of (T : Txt k ad K mg) : FnR P w K mg base (L2.CX P w) 1 (ad 2) (spD k K 3 d_value_of) :=
  fnr_ok (N := ["row", "data", "prime", "factor", "value"]) (ps := ["row", "data", "prime"]) (lvl := 0) (m := b_value_of) T.f_value_of sc_value_of (fun cdv A outer s H E hr =>
  (jb_one (js_ret (j_op b_mod (j_callB (f_sum rfl) rfl T.z_sum (by decide +kernel) (ja_cons (j_comp (own := [("factor", 3), ("value", 4)]) (by decide) rfl sc_value_of.nd (ji_zipK rfl T.z_zip (ja_cons (j_var 0) (ja_cons (j_var 1) ja_nil))) (blkOk_by (N := ["row", "data", "prime", "factor", "value"]) (sc := defScope s_value_of) (by decide +kernel)) (fun _ _ _ _ _ => (jg_tup rfl (jgs_cons (jg_name 3 sc_value_of.nd rfl (by first | exact Or.inl rfl | exact Or.inr rfl)) (jgs_cons (jg_name 4 sc_value_of.nd rfl (by first | exact Or.inl rfl | exact Or.inr rfl)) jgs_nil)))) (fun _ _ _ _ _ => jts_nil) (fun _ _ _ _ _ => (j_op b_mul (j_var 3) (j_var 4)))) ja_nil)) (j_var 2)))))
theorem sc_Sum_call : FnScope ["self", "data"] ["self", "data"] (defScope s_Sum_call) := ⟨rfl, rfl, rfl, by decide +kernel, rfl, by decide +kernel, by decide +kernel⟩
theorem ok_Sum_call (T : Txt k ad K mg) : FnR P w K mg base (L2.CX P w) 5 (ad 16) (spD k K 2 d_Sum_call) :=
  fnr_ok (N := ["self", "data"]) (ps := ["self", "data"]) (lvl := 4) (m := b_Sum_call) T.f_Sum_call sc_Sum_call (fun cdv A outer s H E hr =>
  (jb_cons (js_if (jt_not (jt_val (j_call (ok_is_data (P := P) (w := w) (base := base) T) (hr.mono (by decide)) pass_def rfl T.m_is_data T.f_is_data.kp (ja_cons (j_attr (tab := [(0, .slot 0)]) ⟨⟨T.cl_0, T.sl_0_own_prime⟩, trivial⟩ (j_var 0)) (ja_cons (j_callB f_len rfl T.z_len (by decide +kernel) (ja_cons (j_attr (tab := [(0, .slot 1)]) ⟨⟨T.cl_0, T.sl_0_row⟩, trivial⟩ (j_var 0)) ja_nil)) (ja_cons (j_var 1) ja_nil)))))) (jb_one js_bad) jb_nil)
  (jb_one (js_ret (j_call (ok_value_of (P := P) (w := w) (base := base) T) (hr.mono (by decide)) pass_def rfl T.m_value_of T.f_value_of.kp (ja_cons (j_attr (tab := [(0, .slot 1)]) ⟨⟨T.cl_0, T.sl_0_row⟩, trivial⟩ (j_var 0)) (ja_cons (j_var 1) (ja_cons (j_attr (tab := [(0, .slot 0)]) ⟨⟨T.cl_0, T.sl_0_own_prime⟩, trivial⟩ (j_var 0)) ja_nil))))))))
theorem sc_value : FnScope ["_law_factors_here", "_law_data", "_law_prime", "_law_one", "_law_two"] ["_law_factors_here", "_law_data", "_law_prime"] (defScope s_value) := ⟨rfl, rfl, rfl, by decide +kernel, rfl, by decide +kernel, by decide +kernel⟩
theorem ok_value (T : Txt k ad K mg) : FnR P w K mg base (L2.CX P w) 1 (ad 27) (spD k K 3 d_value) :=
  fnr_ok (N := ["_law_factors_here", "_law_data", "_law_prime", "_law_one", "_law_two"]) (ps := ["_law_factors_here", "_law_data", "_law_prime"]) (lvl := 0) (m := b_value) T.f_value sc_value (fun cdv A outer s H E hr =>
  (jb_one (js_ret (j_op b_mod (j_callTy f_int rfl T.z_int (by decide +kernel) (ja_cons (j_callB (f_sum rfl) rfl T.z_sum (by decide +kernel) (ja_cons (j_comp (own := [("_law_one", 3), ("_law_two", 4)]) (by decide) rfl sc_value.nd (ji_zipK rfl T.z_zip (ja_cons (j_var 0) (ja_cons (j_var 1) ja_nil))) (blkOk_by (N := ["_law_factors_here", "_law_data", "_law_prime", "_law_one", "_law_two"]) (sc := defScope s_value) (by decide +kernel)) (fun _ _ _ _ _ => (jg_tup rfl (jgs_cons (jg_name 3 sc_value.nd rfl (by first | exact Or.inl rfl | exact Or.inr rfl)) (jgs_cons (jg_name 4 sc_value.nd rfl (by first | exact Or.inl rfl | exact Or.inr rfl)) jgs_nil)))) (fun _ _ _ _ _ => jts_nil) (fun _ _ _ _ _ => (j_op b_mul (j_var 3) (j_var 4)))) ja_nil)) ja_nil)) (j_var 2)))))
theorem sc_sum_right : FnScope ["_law_one", "_law_factors_here", "_law_prime", "_law_shown", "_law_data"] ["_law_one", "_law_factors_here", "_law_prime"] (defScope s_sum_right) := ⟨rfl, rfl, rfl, by decide +kernel, rfl, by decide +kernel, by decide +kernel⟩
theorem ok_sum_right (T : Txt k ad K mg) : FnR P w K mg base (L2.CX P w) 6 (ad 30) (spD k K 3 d_sum_right) :=
  fnr_ok (N := ["_law_one", "_law_factors_here", "_law_prime", "_law_shown", "_law_data"]) (ps := ["_law_one", "_law_factors_here", "_law_prime"]) (lvl := 5) (m := b_sum_right) T.f_sum_right sc_sum_right (fun cdv A outer s H E hr =>
  (jb_cons (js_set 3 sc_sum_right.nd rfl (by first | exact Or.inl rfl | exact Or.inr rfl) (j_lst (ja_cons (j_attr (tab := [(0, .prop d_Sum_prime)]) ⟨prop_at (T.cl_0) T.pr_0_prime (ok_Sum_prime (P := P) (w := w) (base := base) T) (hr.mono (by decide)), trivial⟩ (j_var 0)) (ja_cons (j_attr (tab := [(0, .prop d_Sum_factors)]) ⟨prop_at (T.cl_0) T.pr_0_factors (ok_Sum_factors (P := P) (w := w) (base := base) T) (hr.mono (by decide)), trivial⟩ (j_var 0)) (ja_cons (j_attr (tab := [(0, .prop d_Sum_size)]) ⟨prop_at (T.cl_0) T.pr_0_size (ok_Sum_size (P := P) (w := w) (base := base) T) (hr.mono (by decide)), trivial⟩ (j_var 0)) (ja_cons (j_attr (tab := [(0, .prop d_Sum_is_zero)]) ⟨prop_at (T.cl_0) T.pr_0_is_zero (ok_Sum_is_zero (P := P) (w := w) (base := base) T) (hr.mono (by decide)), trivial⟩ (j_var 0)) ja_nil))))))
  (jb_cons (js_if (jt_cmp (b_ne hr.units) (j_var 3) (j_lst (ja_cons (j_var 2) (ja_cons (j_callTy f_tuple rfl T.z_tuple (by decide +kernel) (ja_cons (j_var 1) ja_nil)) (ja_cons (j_callB f_len rfl T.z_len (by decide +kernel) (ja_cons (j_var 1) ja_nil)) (ja_cons (j_cmp (b_eq hr.units) (j_callTy f_tuple rfl T.z_tuple (by decide +kernel) (ja_cons (j_var 1) ja_nil)) (j_op b_mul (j_tup (ja_cons j_int ja_nil)) (j_callB f_len rfl T.z_len (by decide +kernel) (ja_cons (j_var 1) ja_nil))) (nomark _)) ja_nil))))) (nomark _)) (jb_one (js_ret j_bl)) jb_nil)
  (jb_one (js_ret (j_callB (f_all rfl) rfl T.z_all (by decide +kernel) (ja_cons (j_comp (own := [("_law_data", 4)]) (by decide) rfl sc_sum_right.nd (ji_seq (j_call (ok_all_data (P := P) (w := w) (base := base) T) (hr.mono (by decide)) pass_def rfl T.m_all_data T.f_all_data.kp (ja_cons (j_var 2) (ja_cons (j_callB f_len rfl T.z_len (by decide +kernel) (ja_cons (j_var 1) ja_nil)) ja_nil)))) (blkOk_by (N := ["_law_one", "_law_factors_here", "_law_prime", "_law_shown", "_law_data"]) (sc := defScope s_sum_right) (by decide +kernel)) (fun _ _ _ _ _ => (jg_name 4 sc_sum_right.nd rfl (by first | exact Or.inl rfl | exact Or.inr rfl))) (fun _ _ _ _ _ => jts_nil) (fun _ _ _ _ _ => (j_cmp (b_eq hr.units) (j_callO (j_var 0) T.co_0 (ok_Sum_call (P := P) (w := w) (base := base) T) (hr.mono (by decide)) passL (ja_cons (j_var 4) ja_nil)) (j_call (ok_value (P := P) (w := w) (base := base) T) (hr.mono (by decide)) passL rfl T.m_value T.f_value.kp (ja_cons (j_var 1) (ja_cons (j_var 4) (ja_cons (j_var 2) ja_nil)))) (nomark _)))) ja_nil)))))))
theorem sc_Sum_neg : FnScope ["self"] ["self"] (defScope s_Sum_neg) := ⟨rfl, rfl, rfl, by decide +kernel, rfl, by decide +kernel, by decide +kernel⟩
theorem ok_Sum_neg (T : Txt k ad K mg) : FnR P w K mg base (L2.CX P w) 7 (ad 20) (spD k K 1 d_Sum_neg) :=
  fnr_ok (N := ["self"]) (ps := ["self"]) (lvl := 6) (m := b_Sum_neg) T.f_Sum_neg sc_Sum_neg (fun cdv A outer s H E hr =>
  (jb_one (js_ret (j_make T.mk_0 (ok_Sum_init (P := P) (w := w) (base := base) T) (hr.mono (by decide)) pass_def rfl T.g_Sum (ja_cons (j_attr (tab := [(0, .slot 0)]) ⟨⟨T.cl_0, T.sl_0_own_prime⟩, trivial⟩ (j_var 0)) (ja_cons (j_call (ok_scaled (P := P) (w := w) (base := base) T) (hr.mono (by decide)) pass_def rfl T.m_scaled T.f_scaled.kp (ja_cons (j_attr (tab := [(0, .slot 1)]) ⟨⟨T.cl_0, T.sl_0_row⟩, trivial⟩ (j_var 0)) (ja_cons (j_un u_neg j_int) (ja_cons (j_attr (tab := [(0, .slot 0)]) ⟨⟨T.cl_0, T.sl_0_own_prime⟩, trivial⟩ (j_var 0)) ja_nil)))) ja_nil))))))
theorem sc_Sum_eq : FnScope ["self", "other"] ["self", "other"] (defScope s_Sum_eq) := ⟨rfl, rfl, rfl, by decide +kernel, rfl, by decide +kernel, by decide +kernel⟩
theorem ok_Sum_eq (T : Txt k ad K mg) : FnR P w K mg base (L2.CX P w) 1 (ad 21) (spD k K 2 d_Sum_eq) :=
  fnr_ok (N := ["self", "other"]) (ps := ["self", "other"]) (lvl := 0) (m := b_Sum_eq) T.f_Sum_eq sc_Sum_eq (fun cdv A outer s H E hr =>
  (jb_one (js_ret (j_and (j_isi (cs := [0]) (t := .cls 0) (u := .ref (k.cl 0)) (c := .ref (k.cl 0)) (te := tC (.ref (k.cl 0))) ⟨(in_cons ⟨T.cl_0, T.is_0, T.ki_0_0⟩ in_nil), T.kb_0⟩ rfl (fun _ h => h) (.own _) rfl T.z_isinstance (j_var 1) (pe_glob rfl T.g_Sum rfl)) (j_and (j_cmp (b_eq hr.units) (j_attr (tab := [(0, .slot 0)]) ⟨⟨T.cl_0, T.sl_0_own_prime⟩, trivial⟩ (j_var 0)) (j_attr (tab := [(0, .slot 0)]) ⟨⟨T.cl_0, T.sl_0_own_prime⟩, trivial⟩ (j_var 1)) (nomark _)) (j_one (j_cmp (b_eq hr.units) (j_attr (tab := [(0, .slot 1)]) ⟨⟨T.cl_0, T.sl_0_row⟩, trivial⟩ (j_var 0)) (j_attr (tab := [(0, .slot 1)]) ⟨⟨T.cl_0, T.sl_0_row⟩, trivial⟩ (j_var 1)) (nomark _))))))))
theorem sc_pair_right : FnScope ["_law_prime", "_law_one", "_law_other", "_law_number", "_law_both", "_law_less", "_law_times", "_law_first", "_law_second", "_law_low", "_law_high"] ["_law_prime", "_law_one", "_law_other", "_law_number"] (defScope s_pair_right) := ⟨rfl, rfl, rfl, by decide +kernel, rfl, by decide +kernel, by decide +kernel⟩
theorem ok_pair_right (T : Txt k ad K mg) : FnR P w K mg base (L2.CX P w) 8 (ad 31) (spD k K 4 d_pair_right) :=
  fnr_ok (N := ["_law_prime", "_law_one", "_law_other", "_law_number", "_law_both", "_law_less", "_law_times", "_law_first", "_law_second", "_law_low", "_law_high"]) (ps := ["_law_prime", "_law_one", "_law_other", "_law_number"]) (lvl := 7) (m := b_pair_right) T.f_pair_right sc_pair_right (fun cdv A outer s H E hr =>
  (jb_cons (js_par 7 8 rfl sc_pair_right.nd rfl rfl (by decide) rfl rfl (ja_cons (j_make T.mk_0 (ok_Sum_init (P := P) (w := w) (base := base) T) (hr.mono (by decide)) pass_def rfl T.g_Sum (ja_cons (j_var 0) (ja_cons (j_var 1) ja_nil))) (ja_cons (j_make T.mk_0 (ok_Sum_init (P := P) (w := w) (base := base) T) (hr.mono (by decide)) pass_def rfl T.g_Sum (ja_cons (j_var 0) (ja_cons (j_callTy f_list rfl T.z_list (by decide +kernel) (ja_cons (j_var 2) ja_nil)) ja_nil))) ja_nil)) rfl)
  (jb_cons (js_setC (i := 4) (own := [("_law_low", 9), ("_law_high", 10)]) fin_lst (by decide) rfl sc_pair_right.nd rfl rfl rfl (ji_zipK rfl T.z_zip (ja_cons (j_var 1) (ja_cons (j_var 2) ja_nil))) (blkOk_by (N := ["_law_prime", "_law_one", "_law_other", "_law_number", "_law_both", "_law_less", "_law_times", "_law_first", "_law_second", "_law_low", "_law_high"]) (sc := defScope s_pair_right) (by decide +kernel)) (fun _ _ _ _ _ => (jg_tup rfl (jgs_cons (jg_name 9 sc_pair_right.nd rfl (by first | exact Or.inl rfl | exact Or.inr rfl)) (jgs_cons (jg_name 10 sc_pair_right.nd rfl (by first | exact Or.inl rfl | exact Or.inr rfl)) jgs_nil)))) (fun _ _ _ _ _ => jts_nil) (fun _ _ _ _ _ => (j_op b_mod (j_callTy f_int rfl T.z_int (by decide +kernel) (ja_cons (j_op (b_own (op := .Add) (tab := [(0, 2, d_Sum_add)]) ⟨⟨T.sf_0, ⟨_, _, T.me_0_add.at_, T.me_0_add.fn, (ok_Sum_add (P := P) (w := w) (base := base) T), (hr.mono (by decide))⟩, T.rc_0_Add, T.i1_0_Add, T.i2_0_Add, T.i3_0⟩, trivial⟩ passL b_add) (j_var 9) (j_var 10)) ja_nil)) (j_var 0))))
  (jb_cons (js_setC (i := 5) (own := [("_law_low", 9), ("_law_high", 10)]) fin_lst (by decide) rfl sc_pair_right.nd rfl rfl rfl (ji_zipK rfl T.z_zip (ja_cons (j_var 1) (ja_cons (j_var 2) ja_nil))) (blkOk_by (N := ["_law_prime", "_law_one", "_law_other", "_law_number", "_law_both", "_law_less", "_law_times", "_law_first", "_law_second", "_law_low", "_law_high"]) (sc := defScope s_pair_right) (by decide +kernel)) (fun _ _ _ _ _ => (jg_tup rfl (jgs_cons (jg_name 9 sc_pair_right.nd rfl (by first | exact Or.inl rfl | exact Or.inr rfl)) (jgs_cons (jg_name 10 sc_pair_right.nd rfl (by first | exact Or.inl rfl | exact Or.inr rfl)) jgs_nil)))) (fun _ _ _ _ _ => jts_nil) (fun _ _ _ _ _ => (j_op b_mod (j_callTy f_int rfl T.z_int (by decide +kernel) (ja_cons (j_op (b_own (op := .Sub) (tab := [(0, 2, d_Sum_sub)]) ⟨⟨T.sf_0, ⟨_, _, T.me_0_sub.at_, T.me_0_sub.fn, (ok_Sum_sub (P := P) (w := w) (base := base) T), (hr.mono (by decide))⟩, T.rc_0_Sub, T.i1_0_Sub, T.i2_0_Sub, T.i3_0⟩, trivial⟩ passL b_sub) (j_var 9) (j_var 10)) ja_nil)) (j_var 0))))
  (jb_cons (js_setC (i := 6) (own := [("_law_low", 9)]) fin_lst (by decide) rfl sc_pair_right.nd rfl rfl rfl (ji_seq (j_var 1)) (blkOk_by (N := ["_law_prime", "_law_one", "_law_other", "_law_number", "_law_both", "_law_less", "_law_times", "_law_first", "_law_second", "_law_low", "_law_high"]) (sc := defScope s_pair_right) (by decide +kernel)) (fun _ _ _ _ _ => (jg_name 9 sc_pair_right.nd rfl (by first | exact Or.inl rfl | exact Or.inr rfl))) (fun _ _ _ _ _ => jts_nil) (fun _ _ _ _ _ => (j_op b_mod (j_callTy f_int rfl T.z_int (by decide +kernel) (ja_cons (j_op (b_own (op := .Mult) (tab := [(0, 2, d_Sum_mul)]) ⟨⟨T.sf_0, ⟨_, _, T.me_0_mul.at_, T.me_0_mul.fn, (ok_Sum_mul (P := P) (w := w) (base := base) T), (hr.mono (by decide))⟩, T.rc_0_Mult, T.i1_0_Mult, T.i2_0_Mult, T.i3_0⟩, trivial⟩ passL b_mul) (j_var 9) (j_var 3)) ja_nil)) (j_var 0))))
  (jb_cons (js_if (jt_w (jw_or (jt_not (jt_val (j_call (ok_sum_right (P := P) (w := w) (base := base) T) (hr.mono (by decide)) pass_def rfl T.m_sum_right T.f_sum_right.kp (ja_cons (j_var 7) (ja_cons (j_var 1) (ja_cons (j_var 0) ja_nil)))))) (jw_or1 (jt_not (jt_val (j_call (ok_sum_right (P := P) (w := w) (base := base) T) (hr.mono (by decide)) pass_def rfl T.m_sum_right T.f_sum_right.kp (ja_cons (j_op (b_own (op := .Add) (tab := [(0, 2, d_Sum_add)]) ⟨⟨T.sf_0, ⟨_, _, T.me_0_add.at_, T.me_0_add.fn, (ok_Sum_add (P := P) (w := w) (base := base) T), (hr.mono (by decide))⟩, T.rc_0_Add, T.i1_0_Add, T.i2_0_Add, T.i3_0⟩, trivial⟩ pass_def b_add) (j_var 7) (j_var 8)) (ja_cons (j_var 4) (ja_cons (j_var 0) ja_nil))))))))) (jb_one (js_ret j_bl)) jb_nil)
  (jb_cons (js_if (jt_w (jw_or (jt_not (jt_val (j_call (ok_sum_right (P := P) (w := w) (base := base) T) (hr.mono (by decide)) pass_def rfl T.m_sum_right T.f_sum_right.kp (ja_cons (j_op (b_own (op := .Sub) (tab := [(0, 2, d_Sum_sub)]) ⟨⟨T.sf_0, ⟨_, _, T.me_0_sub.at_, T.me_0_sub.fn, (ok_Sum_sub (P := P) (w := w) (base := base) T), (hr.mono (by decide))⟩, T.rc_0_Sub, T.i1_0_Sub, T.i2_0_Sub, T.i3_0⟩, trivial⟩ pass_def b_sub) (j_var 7) (j_var 8)) (ja_cons (j_var 5) (ja_cons (j_var 0) ja_nil)))))) (jw_or1 (jt_not (jt_val (j_call (ok_sum_right (P := P) (w := w) (base := base) T) (hr.mono (by decide)) pass_def rfl T.m_sum_right T.f_sum_right.kp (ja_cons (j_op (b_own (op := .Mult) (tab := [(0, 2, d_Sum_mul)]) ⟨⟨T.sf_0, ⟨_, _, T.me_0_mul.at_, T.me_0_mul.fn, (ok_Sum_mul (P := P) (w := w) (base := base) T), (hr.mono (by decide))⟩, T.rc_0_Mult, T.i1_0_Mult, T.i2_0_Mult, T.i3_0⟩, trivial⟩ pass_def b_mul) (j_var 7) (j_var 3)) (ja_cons (j_var 6) (ja_cons (j_var 0) ja_nil))))))))) (jb_one (js_ret j_bl)) jb_nil)
  (jb_cons (js_if (jt_not (jt_val (j_call (ok_sum_right (P := P) (w := w) (base := base) T) (hr.mono (by decide)) pass_def rfl T.m_sum_right T.f_sum_right.kp (ja_cons (j_un (u_own (tab := [(0, 1, d_Sum_neg)]) ⟨⟨_, _, T.me_0_neg.at_, T.me_0_neg.fn, (ok_Sum_neg (P := P) (w := w) (base := base) T), (hr.mono (by decide))⟩, trivial⟩ pass_def u_neg) (j_var 7)) (ja_cons (j_comp (own := [("_law_low", 9)]) (by decide) rfl sc_pair_right.nd (ji_seq (j_var 1)) (blkOk_by (N := ["_law_prime", "_law_one", "_law_other", "_law_number", "_law_both", "_law_less", "_law_times", "_law_first", "_law_second", "_law_low", "_law_high"]) (sc := defScope s_pair_right) (by decide +kernel)) (fun _ _ _ _ _ => (jg_name 9 sc_pair_right.nd rfl (by first | exact Or.inl rfl | exact Or.inr rfl))) (fun _ _ _ _ _ => jts_nil) (fun _ _ _ _ _ => (j_op b_mod (j_callTy f_int rfl T.z_int (by decide +kernel) (ja_cons (j_op (b_own (op := .Sub) (tab := [(0, 2, d_Sum_sub)]) ⟨⟨T.sf_0, ⟨_, _, T.me_0_sub.at_, T.me_0_sub.fn, (ok_Sum_sub (P := P) (w := w) (base := base) T), (hr.mono (by decide))⟩, T.rc_0_Sub, T.i1_0_Sub, T.i2_0_Sub, T.i3_0⟩, trivial⟩ passL b_sub) j_int (j_var 9)) ja_nil)) (j_var 0)))) (ja_cons (j_var 0) ja_nil)))))) (jb_one (js_ret j_bl)) jb_nil)
  (jb_one (js_ret (j_and (j_cmp (b_eqO (tab := [(0, 2, d_Sum_eq)]) (cs := [0]) ⟨⟨⟨_, _, T.me_0_eq.at_, T.me_0_eq.fn, (ok_Sum_eq (P := P) (w := w) (base := base) T), (hr.mono (by decide))⟩, T.ne_0, T.is_0.cm, T.nb_0, (in_cons T.nf_0_0 in_nil)⟩, trivial⟩ pass_def hr.units) (j_cmp (b_eqO (tab := [(0, 2, d_Sum_eq)]) (cs := [0]) ⟨⟨⟨_, _, T.me_0_eq.at_, T.me_0_eq.fn, (ok_Sum_eq (P := P) (w := w) (base := base) T), (hr.mono (by decide))⟩, T.ne_0, T.is_0.cm, T.nb_0, (in_cons T.nf_0_0 in_nil)⟩, trivial⟩ pass_def hr.units) (j_var 7) (j_var 8) (nomark _)) (j_cmp (b_eqO (tab := [(0, 2, d_Sum_eq)]) (cs := [0]) ⟨⟨⟨_, _, T.me_0_eq.at_, T.me_0_eq.fn, (ok_Sum_eq (P := P) (w := w) (base := base) T), (hr.mono (by decide))⟩, T.ne_0, T.is_0.cm, T.nb_0, (in_cons T.nf_0_0 in_nil)⟩, trivial⟩ pass_def hr.units) (j_var 1) (j_var 2) (nomark _)) (nomark _)) (j_and (j_cmp (b_eqO (tab := [(0, 2, d_Sum_eq)]) (cs := [0]) ⟨⟨⟨_, _, T.me_0_eq.at_, T.me_0_eq.fn, (ok_Sum_eq (P := P) (w := w) (base := base) T), (hr.mono (by decide))⟩, T.ne_0, T.is_0.cm, T.nb_0, (in_cons T.nf_0_0 in_nil)⟩, trivial⟩ pass_def hr.units) (j_var 7) (j_make T.mk_0 (ok_Sum_init (P := P) (w := w) (base := base) T) (hr.mono (by decide)) pass_def rfl T.g_Sum (ja_cons (j_var 0) (ja_cons (j_var 1) ja_nil))) (nomark _)) (j_one (j_cmp b_is (j_cmp (b_eqO (tab := [(0, 2, d_Sum_eq)]) (cs := [0]) ⟨⟨⟨_, _, T.me_0_eq.at_, T.me_0_eq.fn, (ok_Sum_eq (P := P) (w := w) (base := base) T), (hr.mono (by decide))⟩, T.ne_0, T.is_0.cm, T.nb_0, (in_cons T.nf_0_0 in_nil)⟩, trivial⟩ pass_def hr.units) (j_var 7) (j_var 1) (nomark _)) j_bl (nomark _)))))))))))))))
theorem sc_Sum_unit : FnScope ["cls", "prime", "size", "index", "place"] ["cls", "prime", "size", "index"] (defScope s_Sum_unit) := ⟨rfl, rfl, rfl, by decide +kernel, rfl, by decide +kernel, by decide +kernel⟩
theorem ok_Sum_unit (T : Txt k ad K mg) : FnR P w K mg base (L2.CX P w) 7 (ad 10) (spD k K 4 d_Sum_unit) :=
  fnr_ok (N := ["cls", "prime", "size", "index", "place"]) (ps := ["cls", "prime", "size", "index"]) (lvl := 6) (m := b_Sum_unit) T.f_Sum_unit sc_Sum_unit (fun cdv A outer s H E hr =>
  (jb_cons (js_if (jt_not (jt_val (j_call (ok_is_prime (P := P) (w := w) (base := base) T) (hr.mono (by decide)) pass_def rfl T.m_is_prime T.f_is_prime.kp (ja_cons (j_var 1) ja_nil)))) (jb_one js_bad) jb_nil)
  (jb_cons (js_if (jt_not (jt_val (j_call (ok_is_size (P := P) (w := w) (base := base) T) (hr.mono (by decide)) pass_def rfl T.m_is_size T.f_is_size.kp (ja_cons (j_var 1) (ja_cons (j_var 2) ja_nil))))) (jb_one js_bad) jb_nil)
  (jb_cons (js_if (jt_not (jt_val (j_call (ok_is_between (P := P) (w := w) (base := base) T) (hr.mono (by decide)) pass_def rfl T.m_is_between T.f_is_between.kp (ja_cons (j_var 3) (ja_cons j_int (ja_cons (j_op b_sub (j_var 2) j_int) ja_nil)))))) (jb_one js_bad) jb_nil)
  (jb_one (js_ret (j_mkV (j_var 0) T.mk_0 (ok_Sum_init (P := P) (w := w) (base := base) T) (hr.mono (by decide)) pass_def (ja_cons (j_var 1) (ja_cons (j_comp (own := [("place", 4)]) (by decide) rfl sc_Sum_unit.nd (ji_range1 rfl T.z_range (ja_cons (j_var 2) ja_nil)) (blkOk_by (N := ["cls", "prime", "size", "index", "place"]) (sc := defScope s_Sum_unit) (by decide +kernel)) (fun _ _ _ _ _ => (jg_name 4 sc_Sum_unit.nd rfl (by first | exact Or.inl rfl | exact Or.inr rfl))) (fun _ _ _ _ _ => jts_nil) (fun _ _ _ _ _ => (j_ifexp (jt_cmp (b_eq hr.units) (j_var 4) (j_var 3) (nomark _)) j_int j_int))) ja_nil)))))))))
theorem sc_law : FnScope ["_law_script", "_law_turn", "_law_source_here", "_law_number", "_law_index", "_law_prime", "_law_size", "_law_one", "_law_other", "_law_unit", "_law_place"] ["_law_script"] (defScope s_law) := ⟨rfl, rfl, rfl, by decide +kernel, rfl, by decide +kernel, by decide +kernel⟩
theorem ok_law {f : Addr} {fd : FuncData} (F : Fun K "law" "law" s_law f fd) (T : Txt k ad K mg) : FnOk P w K mg base (L2.CX P w) 9 f fd ["_law_script"] (spD k K 1 d_law) :=
  fn_ok (N := ["_law_script", "_law_turn", "_law_source_here", "_law_number", "_law_index", "_law_prime", "_law_size", "_law_one", "_law_other", "_law_unit", "_law_place"]) (ps := ["_law_script"]) (lvl := 8) (m := b_law) F sc_law (fun cdv A outer s H E hr =>
  (jb_cons (js_for (passes_of rfl) rfl (ji_range1 rfl T.z_range (ja_cons (j_callB (f_max rfl) rfl T.z_max (by decide +kernel) (ja_cons j_int (ja_cons (j_callB (f_min rfl) rfl T.z_min (by decide +kernel) (ja_cons (j_callB f_len rfl T.z_len (by decide +kernel) (ja_cons (j_var 0) ja_nil)) (ja_cons j_int ja_nil))) ja_nil))) ja_nil)) (jg_name 1 sc_law.nd rfl (by first | exact Or.inl rfl | exact Or.inr rfl))
  (jb_cons (js_set 2 sc_law.nd rfl (by first | exact Or.inl rfl | exact Or.inr rfl) (j_call (ok_source (P := P) (w := w) (base := base) T) (hr.mono (by decide)) pass_def rfl T.m_source T.f_source.kp (ja_cons (j_var 0) (ja_cons (j_var 1) ja_nil))))
  (jb_cons (js_asg (j_call (ok_form (P := P) (w := w) (base := base) T) (hr.mono (by decide)) pass_def rfl T.m_form T.f_form.kp (ja_cons (j_var 2) ja_nil)) (jg_tup rfl (jgs_cons (jg_name 5 sc_law.nd rfl (by first | exact Or.inl rfl | exact Or.inr rfl)) (jgs_cons (jg_name 6 sc_law.nd rfl (by first | exact Or.inl rfl | exact Or.inr rfl)) jgs_nil))))
  (jb_cons (js_par 7 8 rfl sc_law.nd rfl rfl (by decide) rfl rfl (ja_cons (j_call (ok_factors (P := P) (w := w) (base := base) T) (hr.mono (by decide)) pass_def rfl T.m_factors T.f_factors.kp (ja_cons (j_var 2) (ja_cons (j_var 5) (ja_cons (j_var 6) ja_nil)))) (ja_cons (j_call (ok_factors (P := P) (w := w) (base := base) T) (hr.mono (by decide)) pass_def rfl T.m_factors T.f_factors.kp (ja_cons (j_var 2) (ja_cons (j_var 5) (ja_cons (j_var 6) ja_nil)))) ja_nil)) rfl)
  (jb_cons (js_set 3 sc_law.nd rfl (by first | exact Or.inl rfl | exact Or.inr rfl) (j_ix (j_lst (ja_cons j_int (ja_cons j_int (ja_cons (j_un u_neg j_int) (ja_cons (j_var 5) (ja_cons (j_op (b_own (op := .Add) (tab := [(0, 2, d_Sum_add)]) ⟨⟨T.sf_0, ⟨_, _, T.me_0_add.at_, T.me_0_add.fn, (ok_Sum_add (P := P) (w := w) (base := base) T), (hr.mono (by decide))⟩, T.rc_0_Add, T.i1_0_Add, T.i2_0_Add, T.i3_0⟩, trivial⟩ pass_def b_add) (j_op b_pow j_int j_int) j_int) (ja_cons (j_un u_neg j_int) ja_nil))))))) (j_call (ok_draw (P := P) (w := w) (base := base) T) (hr.mono (by decide)) pass_def rfl T.m_draw T.f_draw.kp (ja_cons (j_var 2) (ja_cons j_int ja_nil))) (fun _ _ => rfl)))
  (jb_cons (js_if (jt_w (jw_or (jt_not (jt_val (j_call (ok_pair_right (P := P) (w := w) (base := base) T) (hr.mono (by decide)) pass_def rfl T.m_pair_right T.f_pair_right.kp (ja_cons (j_var 5) (ja_cons (j_var 7) (ja_cons (j_var 8) (ja_cons (j_var 3) ja_nil))))))) (jw_or1 (jt_not (jt_val (j_call (ok_pair_right (P := P) (w := w) (base := base) T) (hr.mono (by decide)) pass_def rfl T.m_pair_right T.f_pair_right.kp (ja_cons (j_var 5) (ja_cons (j_var 7) (ja_cons (j_var 7) (ja_cons (j_var 3) ja_nil)))))))))) (jb_one (js_ret j_bl)) jb_nil)
  (jb_cons (js_for (passes_of rfl) rfl (ji_range1 rfl T.z_range (ja_cons (j_var 6) ja_nil)) (jg_name 4 sc_law.nd rfl (by first | exact Or.inl rfl | exact Or.inr rfl))
  (jb_cons (js_set 9 sc_law.nd rfl (by first | exact Or.inl rfl | exact Or.inr rfl) (j_cmeth T.crd_0 T.cm_0_unit.choose_spec (ok_Sum_unit (P := P) (w := w) (base := base) T) (hr.mono (by decide)) pass_def rfl T.g_Sum (ja_cons (j_var 5) (ja_cons (j_var 6) (ja_cons (j_var 4) ja_nil)))))
  (jb_one (js_if (jt_cmp (b_neO (tab := [(0, 2, d_Sum_eq)]) (cs := [0]) ⟨⟨⟨_, _, T.me_0_eq.at_, T.me_0_eq.fn, (ok_Sum_eq (P := P) (w := w) (base := base) T), (hr.mono (by decide))⟩, T.ne_0, T.is_0.cm, T.nb_0, (in_cons T.nf_0_0 in_nil)⟩, trivial⟩ pass_def hr.units) (j_var 9) (j_make T.mk_0 (ok_Sum_init (P := P) (w := w) (base := base) T) (hr.mono (by decide)) pass_def rfl T.g_Sum (ja_cons (j_var 5) (ja_cons (j_comp (own := [("_law_place", 10)]) (by decide) rfl sc_law.nd (ji_range1 rfl T.z_range (ja_cons (j_var 6) ja_nil)) (blkOk_by (N := ["_law_script", "_law_turn", "_law_source_here", "_law_number", "_law_index", "_law_prime", "_law_size", "_law_one", "_law_other", "_law_unit", "_law_place"]) (sc := defScope s_law) (by decide +kernel)) (fun _ _ _ _ _ => (jg_name 10 sc_law.nd rfl (by first | exact Or.inl rfl | exact Or.inr rfl))) (fun _ _ _ _ _ => jts_nil) (fun _ _ _ _ _ => (j_callTy f_int rfl T.z_int (by decide +kernel) (ja_cons (j_cmp (b_eqO (tab := [(0, 2, d_Sum_eq)]) (cs := [0]) ⟨⟨⟨_, _, T.me_0_eq.at_, T.me_0_eq.fn, (ok_Sum_eq (P := P) (w := w) (base := base) T), (hr.mono (by decide))⟩, T.ne_0, T.is_0.cm, T.nb_0, (in_cons T.nf_0_0 in_nil)⟩, trivial⟩ passL hr.units) (j_var 10) (j_var 4) (nomark _)) ja_nil)))) ja_nil))) (nomark _)) (jb_one (js_ret j_bl)) jb_nil))))
  (jb_one (js_if (jt_w (jw_or (jt_cmp (b_eqO (tab := [(0, 2, d_Sum_eq)]) (cs := [0]) ⟨⟨⟨_, _, T.me_0_eq.at_, T.me_0_eq.fn, (ok_Sum_eq (P := P) (w := w) (base := base) T), (hr.mono (by decide))⟩, T.ne_0, T.is_0.cm, T.nb_0, (in_cons T.nf_0_0 in_nil)⟩, trivial⟩ pass_def hr.units) (j_make T.mk_0 (ok_Sum_init (P := P) (w := w) (base := base) T) (hr.mono (by decide)) pass_def rfl T.g_Sum (ja_cons j_int (ja_cons (j_tup (ja_cons j_int (ja_cons j_int ja_nil))) ja_nil))) (j_make T.mk_0 (ok_Sum_init (P := P) (w := w) (base := base) T) (hr.mono (by decide)) pass_def rfl T.g_Sum (ja_cons j_int (ja_cons (j_tup (ja_cons j_int (ja_cons j_int ja_nil))) ja_nil))) (nomark _)) (jw_or1 (jt_cmp (b_eqO (tab := [(0, 2, d_Sum_eq)]) (cs := [0]) ⟨⟨⟨_, _, T.me_0_eq.at_, T.me_0_eq.fn, (ok_Sum_eq (P := P) (w := w) (base := base) T), (hr.mono (by decide))⟩, T.ne_0, T.is_0.cm, T.nb_0, (in_cons T.nf_0_0 in_nil)⟩, trivial⟩ pass_def hr.units) (j_make T.mk_0 (ok_Sum_init (P := P) (w := w) (base := base) T) (hr.mono (by decide)) pass_def rfl T.g_Sum (ja_cons j_int (ja_cons (j_tup (ja_cons j_int ja_nil)) ja_nil))) (j_make T.mk_0 (ok_Sum_init (P := P) (w := w) (base := base) T) (hr.mono (by decide)) pass_def rfl T.g_Sum (ja_cons j_int (ja_cons (j_tup (ja_cons j_int (ja_cons j_int ja_nil))) ja_nil))) (nomark _))))) (jb_one (js_ret j_bl)) jb_nil)))))))))
  (jb_one (js_ret j_bl))))
end
def kOf (cs : List Addr) : Kx := ⟨fun n => cs.getD n 0, fun _ => []⟩
def adOf (fs : List Addr) : Nat → Addr := fun n => fs.getD n 0
theorem all_mk {l : PySem.W.OpenLaw} {w : World} {K : PySem.W.Frag} {h : Heap} {mg : Str → Option Value} {fa : Addr} {C0 : Addr} {f23 : Addr} {oc23 : Value} {kV23 : Value} {dc23 : Value} {pm23 : Value} {cd23 : Value} {ct23 : Value} {od23 : Option Addr} {an23 : Option Addr} {sl23 : Array (Option Value)} {f24 : Addr} {oc24 : Value} {kV24 : Value} {dc24 : Value} {pm24 : Value} {cd24 : Value} {ct24 : Value} {od24 : Option Addr} {an24 : Option Addr} {sl24 : Array (Option Value)} {f25 : Addr} {oc25 : Value} {kV25 : Value} {dc25 : Value} {pm25 : Value} {cd25 : Value} {ct25 : Value} {od25 : Option Addr} {an25 : Option Addr} {sl25 : Array (Option Value)} {f29 : Addr} {oc29 : Value} {kV29 : Value} {dc29 : Value} {pm29 : Value} {cd29 : Value} {ct29 : Value} {od29 : Option Addr} {an29 : Option Addr} {sl29 : Array (Option Value)} {f28 : Addr} {oc28 : Value} {kV28 : Value} {dc28 : Value} {pm28 : Value} {cd28 : Value} {ct28 : Value} {od28 : Option Addr} {an28 : Option Addr} {sl28 : Array (Option Value)} {f11 : Addr} {p11 : Addr} {r11 : List Value} {oc11 : Value} {kV11 : Value} {dc11 : Value} {pm11 : Value} {cd11 : Value} {ct11 : Value} {od11 : Option Addr} {an11 : Option Addr} {sl11 : Array (Option Value)} {f13 : Addr} {p13 : Addr} {r13 : List Value} {oc13 : Value} {kV13 : Value} {dc13 : Value} {pm13 : Value} {cd13 : Value} {ct13 : Value} {od13 : Option Addr} {an13 : Option Addr} {sl13 : Array (Option Value)} {f22 : Addr} {oc22 : Value} {kV22 : Value} {dc22 : Value} {pm22 : Value} {cd22 : Value} {ct22 : Value} {od22 : Option Addr} {an22 : Option Addr} {sl22 : Array (Option Value)} {f15 : Addr} {oc15 : Value} {kV15 : Value} {dc15 : Value} {pm15 : Value} {cd15 : Value} {ct15 : Value} {od15 : Option Addr} {an15 : Option Addr} {sl15 : Array (Option Value)} {f1 : Addr} {oc1 : Value} {kV1 : Value} {dc1 : Value} {pm1 : Value} {cd1 : Value} {ct1 : Value} {od1 : Option Addr} {an1 : Option Addr} {sl1 : Array (Option Value)} {f5 : Addr} {oc5 : Value} {kV5 : Value} {dc5 : Value} {pm5 : Value} {cd5 : Value} {ct5 : Value} {od5 : Option Addr} {an5 : Option Addr} {sl5 : Array (Option Value)} {f6 : Addr} {oc6 : Value} {kV6 : Value} {dc6 : Value} {pm6 : Value} {cd6 : Value} {ct6 : Value} {od6 : Option Addr} {an6 : Option Addr} {sl6 : Array (Option Value)} {f4 : Addr} {oc4 : Value} {kV4 : Value} {dc4 : Value} {pm4 : Value} {cd4 : Value} {ct4 : Value} {od4 : Option Addr} {an4 : Option Addr} {sl4 : Array (Option Value)} {f3 : Addr} {oc3 : Value} {kV3 : Value} {dc3 : Value} {pm3 : Value} {cd3 : Value} {ct3 : Value} {od3 : Option Addr} {an3 : Option Addr} {sl3 : Array (Option Value)} {f7 : Addr} {oc7 : Value} {kV7 : Value} {dc7 : Value} {pm7 : Value} {cd7 : Value} {ct7 : Value} {od7 : Option Addr} {an7 : Option Addr} {sl7 : Array (Option Value)} {f8 : Addr} {oc8 : Value} {kV8 : Value} {dc8 : Value} {pm8 : Value} {cd8 : Value} {ct8 : Value} {od8 : Option Addr} {an8 : Option Addr} {sl8 : Array (Option Value)} {f9 : Addr} {oc9 : Value} {kV9 : Value} {dc9 : Value} {pm9 : Value} {cd9 : Value} {ct9 : Value} {od9 : Option Addr} {an9 : Option Addr} {sl9 : Array (Option Value)} {f17 : Addr} {oc17 : Value} {kV17 : Value} {dc17 : Value} {pm17 : Value} {cd17 : Value} {ct17 : Value} {od17 : Option Addr} {an17 : Option Addr} {sl17 : Array (Option Value)} {f18 : Addr} {oc18 : Value} {kV18 : Value} {dc18 : Value} {pm18 : Value} {cd18 : Value} {ct18 : Value} {od18 : Option Addr} {an18 : Option Addr} {sl18 : Array (Option Value)} {f0 : Addr} {oc0 : Value} {kV0 : Value} {dc0 : Value} {pm0 : Value} {cd0 : Value} {ct0 : Value} {od0 : Option Addr} {an0 : Option Addr} {sl0 : Array (Option Value)} {f19 : Addr} {oc19 : Value} {kV19 : Value} {dc19 : Value} {pm19 : Value} {cd19 : Value} {ct19 : Value} {od19 : Option Addr} {an19 : Option Addr} {sl19 : Array (Option Value)} {f12 : Addr} {p12 : Addr} {r12 : List Value} {oc12 : Value} {kV12 : Value} {dc12 : Value} {pm12 : Value} {cd12 : Value} {ct12 : Value} {od12 : Option Addr} {an12 : Option Addr} {sl12 : Array (Option Value)} {f14 : Addr} {p14 : Addr} {r14 : List Value} {oc14 : Value} {kV14 : Value} {dc14 : Value} {pm14 : Value} {cd14 : Value} {ct14 : Value} {od14 : Option Addr} {an14 : Option Addr} {sl14 : Array (Option Value)} {f26 : Addr} {oc26 : Value} {kV26 : Value} {dc26 : Value} {pm26 : Value} {cd26 : Value} {ct26 : Value} {od26 : Option Addr} {an26 : Option Addr} {sl26 : Array (Option Value)} {f2 : Addr} {oc2 : Value} {kV2 : Value} {dc2 : Value} {pm2 : Value} {cd2 : Value} {ct2 : Value} {od2 : Option Addr} {an2 : Option Addr} {sl2 : Array (Option Value)} {f16 : Addr} {oc16 : Value} {kV16 : Value} {dc16 : Value} {pm16 : Value} {cd16 : Value} {ct16 : Value} {od16 : Option Addr} {an16 : Option Addr} {sl16 : Array (Option Value)} {f27 : Addr} {oc27 : Value} {kV27 : Value} {dc27 : Value} {pm27 : Value} {cd27 : Value} {ct27 : Value} {od27 : Option Addr} {an27 : Option Addr} {sl27 : Array (Option Value)} {f30 : Addr} {oc30 : Value} {kV30 : Value} {dc30 : Value} {pm30 : Value} {cd30 : Value} {ct30 : Value} {od30 : Option Addr} {an30 : Option Addr} {sl30 : Array (Option Value)} {f20 : Addr} {oc20 : Value} {kV20 : Value} {dc20 : Value} {pm20 : Value} {cd20 : Value} {ct20 : Value} {od20 : Option Addr} {an20 : Option Addr} {sl20 : Array (Option Value)} {f21 : Addr} {oc21 : Value} {kV21 : Value} {dc21 : Value} {pm21 : Value} {cd21 : Value} {ct21 : Value} {od21 : Option Addr} {an21 : Option Addr} {sl21 : Array (Option Value)} {f31 : Addr} {oc31 : Value} {kV31 : Value} {dc31 : Value} {pm31 : Value} {cd31 : Value} {ct31 : Value} {od31 : Option Addr} {an31 : Option Addr} {sl31 : Array (Option Value)} {f10 : Addr} {p10 : Addr} {r10 : List Value} {oc10 : Value} {kV10 : Value} {dc10 : Value} {pm10 : Value} {cd10 : Value} {ct10 : Value} {od10 : Option Addr} {an10 : Option Addr} {sl10 : Array (Option Value)} {f32 : Addr} {oc32 : Value} {kV32 : Value} {dc32 : Value} {pm32 : Value} {cd32 : Value} {ct32 : Value} {od32 : Option Addr} {an32 : Option Addr} {sl32 : Array (Option Value)} {tk_MOST_DATA : Tok} {ga_PRIMES : Addr} {go_PRIMES : Option Addr} {gi_PRIMES : Array Value} {gn_PRIMES : Nat} {gs_PRIMES : Array (Option Value)} {vi1_0_Add : Option Value} {vi1_0_Mult : Option Value} {vi1_0_Sub : Option Value} {vi2_0_Add : Option Value} {vi2_0_Mult : Option Value} {vi2_0_Sub : Option Value} {sp0_own_prime : Addr} {sp0_row : Addr}
    (X : K.In h) (G : h.Ns mainGlobals mg) (hfa : mg "law" = some (.ref fa))
    (aC0 : PySem.W.nsIn K mainGlobals "Sum" = some (some (.ref C0)))
    (a23 : PySem.W.nsIn K mainGlobals "_law_source" = some (some (.ref f23)))
    (l23 : K.lookup f23 = some ⟨oc23, od23, .func (PySem.W.fnOf "_law_source" "_law_source" (defArgs s_source) (defBody s_source) (defScope s_source) .none kV23 dc23 pm23 an23 cd23 ct23), sl23⟩)
    (c23 : PySem.W.codeIn K cd23 "_law_source" = true)
    (k23 : PySem.W.keepIn K (.ref f23) = true)
    (a24 : PySem.W.nsIn K mainGlobals "_law_draw" = some (some (.ref f24)))
    (l24 : K.lookup f24 = some ⟨oc24, od24, .func (PySem.W.fnOf "_law_draw" "_law_draw" (defArgs s_draw) (defBody s_draw) (defScope s_draw) .none kV24 dc24 pm24 an24 cd24 ct24), sl24⟩)
    (c24 : PySem.W.codeIn K cd24 "_law_draw" = true)
    (k24 : PySem.W.keepIn K (.ref f24) = true)
    (a25 : PySem.W.nsIn K mainGlobals "_law_pick" = some (some (.ref f25)))
    (l25 : K.lookup f25 = some ⟨oc25, od25, .func (PySem.W.fnOf "_law_pick" "_law_pick" (defArgs s_pick) (defBody s_pick) (defScope s_pick) .none kV25 dc25 pm25 an25 cd25 ct25), sl25⟩)
    (c25 : PySem.W.codeIn K cd25 "_law_pick" = true)
    (k25 : PySem.W.keepIn K (.ref f25) = true)
    (a29 : PySem.W.nsIn K mainGlobals "_law_form" = some (some (.ref f29)))
    (l29 : K.lookup f29 = some ⟨oc29, od29, .func (PySem.W.fnOf "_law_form" "_law_form" (defArgs s_form) (defBody s_form) (defScope s_form) .none kV29 dc29 pm29 an29 cd29 ct29), sl29⟩)
    (c29 : PySem.W.codeIn K cd29 "_law_form" = true)
    (k29 : PySem.W.keepIn K (.ref f29) = true)
    (a28 : PySem.W.nsIn K mainGlobals "_law_factors" = some (some (.ref f28)))
    (l28 : K.lookup f28 = some ⟨oc28, od28, .func (PySem.W.fnOf "_law_factors" "_law_factors" (defArgs s_factors) (defBody s_factors) (defScope s_factors) .none kV28 dc28 pm28 an28 cd28 ct28), sl28⟩)
    (c28 : PySem.W.codeIn K cd28 "_law_factors" = true)
    (k28 : PySem.W.keepIn K (.ref f28) = true)
    (a11 : PySem.W.findIn K (.ref C0) "prime" = some (some (.ref p11)))
    (x11 : PySem.W.specialIn K (.ref p11) "__get__" = some (some (.builtin "property.__get__")))
    (t11 : PySem.W.takesIn K (.ref p11) = some true)
    (q11 : PySem.W.recIn K p11 "property" = some (.ref f11 :: r11))
    (l11 : K.lookup f11 = some ⟨oc11, od11, .func (PySem.W.fnOf "prime" "Sum.prime" (defArgs s_Sum_prime) (defBody s_Sum_prime) (defScope s_Sum_prime) .none kV11 dc11 pm11 an11 cd11 ct11), sl11⟩)
    (c11 : PySem.W.codeIn K cd11 "Sum.prime" = true)
    (k11 : PySem.W.keepIn K (.ref f11) = true)
    (a13 : PySem.W.findIn K (.ref C0) "size" = some (some (.ref p13)))
    (x13 : PySem.W.specialIn K (.ref p13) "__get__" = some (some (.builtin "property.__get__")))
    (t13 : PySem.W.takesIn K (.ref p13) = some true)
    (q13 : PySem.W.recIn K p13 "property" = some (.ref f13 :: r13))
    (l13 : K.lookup f13 = some ⟨oc13, od13, .func (PySem.W.fnOf "size" "Sum.size" (defArgs s_Sum_size) (defBody s_Sum_size) (defScope s_Sum_size) .none kV13 dc13 pm13 an13 cd13 ct13), sl13⟩)
    (c13 : PySem.W.codeIn K cd13 "Sum.size" = true)
    (k13 : PySem.W.keepIn K (.ref f13) = true)
    (a22 : PySem.W.nsIn K mainGlobals "is_sum" = some (some (.ref f22)))
    (l22 : K.lookup f22 = some ⟨oc22, od22, .func (PySem.W.fnOf "is_sum" "is_sum" (defArgs s_is_sum) (defBody s_is_sum) (defScope s_is_sum) .none kV22 dc22 pm22 an22 cd22 ct22), sl22⟩)
    (c22 : PySem.W.codeIn K cd22 "is_sum" = true)
    (k22 : PySem.W.keepIn K (.ref f22) = true)
    (a15 : PySem.W.findIn K (.ref C0) "require" = some (some (.ref f15)))
    (i15 : PySem.W.isFn K (.ref f15) = true)
    (l15 : K.lookup f15 = some ⟨oc15, od15, .func (PySem.W.fnOf "require" "Sum.require" (defArgs s_Sum_require) (defBody s_Sum_require) (defScope s_Sum_require) .none kV15 dc15 pm15 an15 cd15 ct15), sl15⟩)
    (c15 : PySem.W.codeIn K cd15 "Sum.require" = true)
    (k15 : PySem.W.keepIn K (.ref f15) = true)
    (a1 : PySem.W.nsIn K mainGlobals "added" = some (some (.ref f1)))
    (l1 : K.lookup f1 = some ⟨oc1, od1, .func (PySem.W.fnOf "added" "added" (defArgs s_added) (defBody s_added) (defScope s_added) .none kV1 dc1 pm1 an1 cd1 ct1), sl1⟩)
    (c1 : PySem.W.codeIn K cd1 "added" = true)
    (k1 : PySem.W.keepIn K (.ref f1) = true)
    (a5 : PySem.W.nsIn K mainGlobals "is_integer" = some (some (.ref f5)))
    (l5 : K.lookup f5 = some ⟨oc5, od5, .func (PySem.W.fnOf "is_integer" "is_integer" (defArgs s_is_integer) (defBody s_is_integer) (defScope s_is_integer) .none kV5 dc5 pm5 an5 cd5 ct5), sl5⟩)
    (c5 : PySem.W.codeIn K cd5 "is_integer" = true)
    (k5 : PySem.W.keepIn K (.ref f5) = true)
    (a6 : PySem.W.nsIn K mainGlobals "is_prime" = some (some (.ref f6)))
    (l6 : K.lookup f6 = some ⟨oc6, od6, .func (PySem.W.fnOf "is_prime" "is_prime" (defArgs s_is_prime) (defBody s_is_prime) (defScope s_is_prime) .none kV6 dc6 pm6 an6 cd6 ct6), sl6⟩)
    (c6 : PySem.W.codeIn K cd6 "is_prime" = true)
    (k6 : PySem.W.keepIn K (.ref f6) = true)
    (a4 : PySem.W.nsIn K mainGlobals "is_between" = some (some (.ref f4)))
    (l4 : K.lookup f4 = some ⟨oc4, od4, .func (PySem.W.fnOf "is_between" "is_between" (defArgs s_is_between) (defBody s_is_between) (defScope s_is_between) .none kV4 dc4 pm4 an4 cd4 ct4), sl4⟩)
    (c4 : PySem.W.codeIn K cd4 "is_between" = true)
    (k4 : PySem.W.keepIn K (.ref f4) = true)
    (a3 : PySem.W.nsIn K mainGlobals "power" = some (some (.ref f3)))
    (l3 : K.lookup f3 = some ⟨oc3, od3, .func (PySem.W.fnOf "power" "power" (defArgs s_power) (defBody s_power) (defScope s_power) .none kV3 dc3 pm3 an3 cd3 ct3), sl3⟩)
    (c3 : PySem.W.codeIn K cd3 "power" = true)
    (k3 : PySem.W.keepIn K (.ref f3) = true)
    (a7 : PySem.W.nsIn K mainGlobals "is_size" = some (some (.ref f7)))
    (l7 : K.lookup f7 = some ⟨oc7, od7, .func (PySem.W.fnOf "is_size" "is_size" (defArgs s_is_size) (defBody s_is_size) (defScope s_is_size) .none kV7 dc7 pm7 an7 cd7 ct7), sl7⟩)
    (c7 : PySem.W.codeIn K cd7 "is_size" = true)
    (k7 : PySem.W.keepIn K (.ref f7) = true)
    (a8 : PySem.W.nsIn K mainGlobals "is_data" = some (some (.ref f8)))
    (l8 : K.lookup f8 = some ⟨oc8, od8, .func (PySem.W.fnOf "is_data" "is_data" (defArgs s_is_data) (defBody s_is_data) (defScope s_is_data) .none kV8 dc8 pm8 an8 cd8 ct8), sl8⟩)
    (c8 : PySem.W.codeIn K cd8 "is_data" = true)
    (k8 : PySem.W.keepIn K (.ref f8) = true)
    (a9 : PySem.W.findIn K (.ref C0) "__init__" = some (some (.ref f9)))
    (i9 : PySem.W.isFn K (.ref f9) = true)
    (l9 : K.lookup f9 = some ⟨oc9, od9, .func (PySem.W.fnOf "__init__" "Sum.__init__" (defArgs s_Sum_init) (defBody s_Sum_init) (defScope s_Sum_init) .none kV9 dc9 pm9 an9 cd9 ct9), sl9⟩)
    (c9 : PySem.W.codeIn K cd9 "Sum.__init__" = true)
    (k9 : PySem.W.keepIn K (.ref f9) = true)
    (a17 : PySem.W.findIn K (.ref C0) "__add__" = some (some (.ref f17)))
    (i17 : PySem.W.isFn K (.ref f17) = true)
    (l17 : K.lookup f17 = some ⟨oc17, od17, .func (PySem.W.fnOf "__add__" "Sum.__add__" (defArgs s_Sum_add) (defBody s_Sum_add) (defScope s_Sum_add) .none kV17 dc17 pm17 an17 cd17 ct17), sl17⟩)
    (c17 : PySem.W.codeIn K cd17 "Sum.__add__" = true)
    (k17 : PySem.W.keepIn K (.ref f17) = true)
    (a18 : PySem.W.findIn K (.ref C0) "__sub__" = some (some (.ref f18)))
    (i18 : PySem.W.isFn K (.ref f18) = true)
    (l18 : K.lookup f18 = some ⟨oc18, od18, .func (PySem.W.fnOf "__sub__" "Sum.__sub__" (defArgs s_Sum_sub) (defBody s_Sum_sub) (defScope s_Sum_sub) .none kV18 dc18 pm18 an18 cd18 ct18), sl18⟩)
    (c18 : PySem.W.codeIn K cd18 "Sum.__sub__" = true)
    (k18 : PySem.W.keepIn K (.ref f18) = true)
    (a0 : PySem.W.nsIn K mainGlobals "scaled" = some (some (.ref f0)))
    (l0 : K.lookup f0 = some ⟨oc0, od0, .func (PySem.W.fnOf "scaled" "scaled" (defArgs s_scaled) (defBody s_scaled) (defScope s_scaled) .none kV0 dc0 pm0 an0 cd0 ct0), sl0⟩)
    (c0 : PySem.W.codeIn K cd0 "scaled" = true)
    (k0 : PySem.W.keepIn K (.ref f0) = true)
    (a19 : PySem.W.findIn K (.ref C0) "__mul__" = some (some (.ref f19)))
    (i19 : PySem.W.isFn K (.ref f19) = true)
    (l19 : K.lookup f19 = some ⟨oc19, od19, .func (PySem.W.fnOf "__mul__" "Sum.__mul__" (defArgs s_Sum_mul) (defBody s_Sum_mul) (defScope s_Sum_mul) .none kV19 dc19 pm19 an19 cd19 ct19), sl19⟩)
    (c19 : PySem.W.codeIn K cd19 "Sum.__mul__" = true)
    (k19 : PySem.W.keepIn K (.ref f19) = true)
    (a12 : PySem.W.findIn K (.ref C0) "factors" = some (some (.ref p12)))
    (x12 : PySem.W.specialIn K (.ref p12) "__get__" = some (some (.builtin "property.__get__")))
    (t12 : PySem.W.takesIn K (.ref p12) = some true)
    (q12 : PySem.W.recIn K p12 "property" = some (.ref f12 :: r12))
    (l12 : K.lookup f12 = some ⟨oc12, od12, .func (PySem.W.fnOf "factors" "Sum.factors" (defArgs s_Sum_factors) (defBody s_Sum_factors) (defScope s_Sum_factors) .none kV12 dc12 pm12 an12 cd12 ct12), sl12⟩)
    (c12 : PySem.W.codeIn K cd12 "Sum.factors" = true)
    (k12 : PySem.W.keepIn K (.ref f12) = true)
    (a14 : PySem.W.findIn K (.ref C0) "is_zero" = some (some (.ref p14)))
    (x14 : PySem.W.specialIn K (.ref p14) "__get__" = some (some (.builtin "property.__get__")))
    (t14 : PySem.W.takesIn K (.ref p14) = some true)
    (q14 : PySem.W.recIn K p14 "property" = some (.ref f14 :: r14))
    (l14 : K.lookup f14 = some ⟨oc14, od14, .func (PySem.W.fnOf "is_zero" "Sum.is_zero" (defArgs s_Sum_is_zero) (defBody s_Sum_is_zero) (defScope s_Sum_is_zero) .none kV14 dc14 pm14 an14 cd14 ct14), sl14⟩)
    (c14 : PySem.W.codeIn K cd14 "Sum.is_zero" = true)
    (k14 : PySem.W.keepIn K (.ref f14) = true)
    (a26 : PySem.W.nsIn K mainGlobals "_law_all_data" = some (some (.ref f26)))
    (l26 : K.lookup f26 = some ⟨oc26, od26, .func (PySem.W.fnOf "_law_all_data" "_law_all_data" (defArgs s_all_data) (defBody s_all_data) (defScope s_all_data) .none kV26 dc26 pm26 an26 cd26 ct26), sl26⟩)
    (c26 : PySem.W.codeIn K cd26 "_law_all_data" = true)
    (k26 : PySem.W.keepIn K (.ref f26) = true)
    (a2 : PySem.W.nsIn K mainGlobals "value_of" = some (some (.ref f2)))
    (l2 : K.lookup f2 = some ⟨oc2, od2, .func (PySem.W.fnOf "value_of" "value_of" (defArgs s_value_of) (defBody s_value_of) (defScope s_value_of) .none kV2 dc2 pm2 an2 cd2 ct2), sl2⟩)
    (c2 : PySem.W.codeIn K cd2 "value_of" = true)
    (k2 : PySem.W.keepIn K (.ref f2) = true)
    (a16 : PySem.W.findIn K (.ref C0) "__call__" = some (some (.ref f16)))
    (i16 : PySem.W.isFn K (.ref f16) = true)
    (l16 : K.lookup f16 = some ⟨oc16, od16, .func (PySem.W.fnOf "__call__" "Sum.__call__" (defArgs s_Sum_call) (defBody s_Sum_call) (defScope s_Sum_call) .none kV16 dc16 pm16 an16 cd16 ct16), sl16⟩)
    (c16 : PySem.W.codeIn K cd16 "Sum.__call__" = true)
    (k16 : PySem.W.keepIn K (.ref f16) = true)
    (a27 : PySem.W.nsIn K mainGlobals "_law_value" = some (some (.ref f27)))
    (l27 : K.lookup f27 = some ⟨oc27, od27, .func (PySem.W.fnOf "_law_value" "_law_value" (defArgs s_value) (defBody s_value) (defScope s_value) .none kV27 dc27 pm27 an27 cd27 ct27), sl27⟩)
    (c27 : PySem.W.codeIn K cd27 "_law_value" = true)
    (k27 : PySem.W.keepIn K (.ref f27) = true)
    (a30 : PySem.W.nsIn K mainGlobals "_law_sum_right" = some (some (.ref f30)))
    (l30 : K.lookup f30 = some ⟨oc30, od30, .func (PySem.W.fnOf "_law_sum_right" "_law_sum_right" (defArgs s_sum_right) (defBody s_sum_right) (defScope s_sum_right) .none kV30 dc30 pm30 an30 cd30 ct30), sl30⟩)
    (c30 : PySem.W.codeIn K cd30 "_law_sum_right" = true)
    (k30 : PySem.W.keepIn K (.ref f30) = true)
    (a20 : PySem.W.findIn K (.ref C0) "__neg__" = some (some (.ref f20)))
    (i20 : PySem.W.isFn K (.ref f20) = true)
    (l20 : K.lookup f20 = some ⟨oc20, od20, .func (PySem.W.fnOf "__neg__" "Sum.__neg__" (defArgs s_Sum_neg) (defBody s_Sum_neg) (defScope s_Sum_neg) .none kV20 dc20 pm20 an20 cd20 ct20), sl20⟩)
    (c20 : PySem.W.codeIn K cd20 "Sum.__neg__" = true)
    (k20 : PySem.W.keepIn K (.ref f20) = true)
    (a21 : PySem.W.findIn K (.ref C0) "__eq__" = some (some (.ref f21)))
    (i21 : PySem.W.isFn K (.ref f21) = true)
    (l21 : K.lookup f21 = some ⟨oc21, od21, .func (PySem.W.fnOf "__eq__" "Sum.__eq__" (defArgs s_Sum_eq) (defBody s_Sum_eq) (defScope s_Sum_eq) .none kV21 dc21 pm21 an21 cd21 ct21), sl21⟩)
    (c21 : PySem.W.codeIn K cd21 "Sum.__eq__" = true)
    (k21 : PySem.W.keepIn K (.ref f21) = true)
    (a31 : PySem.W.nsIn K mainGlobals "_law_pair_right" = some (some (.ref f31)))
    (l31 : K.lookup f31 = some ⟨oc31, od31, .func (PySem.W.fnOf "_law_pair_right" "_law_pair_right" (defArgs s_pair_right) (defBody s_pair_right) (defScope s_pair_right) .none kV31 dc31 pm31 an31 cd31 ct31), sl31⟩)
    (c31 : PySem.W.codeIn K cd31 "_law_pair_right" = true)
    (k31 : PySem.W.keepIn K (.ref f31) = true)
    (a10 : PySem.W.findCls K (.ref C0) (.type "type") "unit" = some (.get (.builtin "classmethod.__get__") (.ref p10) .none (.ref C0)))
    (q10 : PySem.W.recIn K p10 "classmethod" = some (.ref f10 :: r10))
    (n10 : PySem.W.fnIn K f10 = true)
    (l10 : K.lookup f10 = some ⟨oc10, od10, .func (PySem.W.fnOf "unit" "Sum.unit" (defArgs s_Sum_unit) (defBody s_Sum_unit) (defScope s_Sum_unit) .none kV10 dc10 pm10 an10 cd10 ct10), sl10⟩)
    (c10 : PySem.W.codeIn K cd10 "Sum.unit" = true)
    (k10 : PySem.W.keepIn K (.ref f10) = true)
    (a32 : PySem.W.nsIn K mainGlobals "law" = some (some (.ref f32)))
    (l32 : K.lookup f32 = some ⟨oc32, od32, .func (PySem.W.fnOf "law" "law" (defArgs s_law) (defBody s_law) (defScope s_law) .none kV32 dc32 pm32 an32 cd32 ct32), sl32⟩)
    (c32 : PySem.W.codeIn K cd32 "law" = true)
    (k32 : PySem.W.keepIn K (.ref f32) = true)
    (pg0 : PySem.W.plainGet K C0 Str.empty = true)
    (ic0 : PySem.W.isClsIn K C0 = true)
    (po0 : PySem.W.plainOver K C0 = true)
    (sa0 : PySem.W.findIn K (.ref C0) "__setattr__" = some (some (.builtin "object.__setattr__")))
    (fi16 : PySem.W.fnIn K f16 = true)
    (rd0 : PySem.W.readsIn K C0 (.type "type") = true)
    (rg0 : PySem.W.specialIn K (.ref C0) "__getattribute__" = some (some (.builtin "type.__getattribute__")))
    (g_MOST_DATA : PySem.W.nsIn K mainGlobals "MOST_DATA" = some (some (.int 4096 tk_MOST_DATA)))
    (g_PRIMES : PySem.W.nsIn K mainGlobals "PRIMES" = some (some (.ref ga_PRIMES)))
    (gl_PRIMES : K.lookup ga_PRIMES = some ⟨.type "tuple", go_PRIMES, .seq gi_PRIMES gn_PRIMES, gs_PRIMES⟩)
    (gz_PRIMES : gi_PRIMES.size ≤ sizeLine)
    (gv_PRIMES : gi_PRIMES.toList.map isIntV = ([2, 3, 5, 7] : List Int).map some)
    (i1_0_Add : PySem.W.findIn K (.type "int") (PySem.dunder (Operator.Add).info.2) = some vi1_0_Add)
    (i1_0_Mult : PySem.W.findIn K (.type "int") (PySem.dunder (Operator.Mult).info.2) = some vi1_0_Mult)
    (i1_0_Sub : PySem.W.findIn K (.type "int") (PySem.dunder (Operator.Sub).info.2) = some vi1_0_Sub)
    (i2_0_Add : PySem.W.findIn K (.type "int") (dunderR (Operator.Add).info.2) = some vi2_0_Add)
    (i2_0_Mult : PySem.W.findIn K (.type "int") (dunderR (Operator.Mult).info.2) = some vi2_0_Mult)
    (i2_0_Sub : PySem.W.findIn K (.type "int") (dunderR (Operator.Sub).info.2) = some vi2_0_Sub)
    (i3_0 : PySem.W.subIn K (.type "int") (.ref C0) = some false)
    (ca0 : PySem.W.findIn K (.ref C0) "__class__" = some (some (.builtin "object.__class__")))
    (cn0 : PySem.W.specialIn K (.builtin "object.__class__") "__get__" = some (some (.builtin "getset_descriptor.__get__")))
    (cT0 : PySem.W.takesIn K (.builtin "object.__class__") = some true)
    (cM0 : PySem.W.mroIn K C0 (.type "object") = some true)
    (kas_0l : PySem.W.mroIn K C0 (.type "list") = some false)
    (kas_0t : PySem.W.mroIn K C0 (.type "tuple") = some false)
    (kb_0c : PySem.W.isClsIn K C0 = true)
    (kb_0y : PySem.W.typeIn K (.ref C0) = some (.type "type"))
    (kb_0_NoneType : PySem.W.subIn K (.type "NoneType") (.ref C0) = some false)
    (kb_0_bool : PySem.W.subIn K (.type "bool") (.ref C0) = some false)
    (kb_0_int : PySem.W.subIn K (.type "int") (.ref C0) = some false)
    (kb_0_str : PySem.W.subIn K (.type "str") (.ref C0) = some false)
    (kb_0_list : PySem.W.subIn K (.type "list") (.ref C0) = some false)
    (kb_0_tuple : PySem.W.subIn K (.type "tuple") (.ref C0) = some false)
    (ki_0_bool : PySem.W.mroIn K C0 (.type "bool") = some false)
    (ki_0_int : PySem.W.mroIn K C0 (.type "int") = some false)
    (mk0 : PySem.W.makesIn K C0 = true)
    (kc0 : PySem.W.keepIn K (.ref C0) = true)
    (nb_0_NoneType : PySem.W.notFirst K C0 (.type "NoneType") = true)
    (nb_0_bool : PySem.W.notFirst K C0 (.type "bool") = true)
    (nb_0_int : PySem.W.notFirst K C0 (.type "int") = true)
    (nb_0_str : PySem.W.notFirst K C0 (.type "str") = true)
    (nb_0_list : PySem.W.notFirst K C0 (.type "list") = true)
    (nb_0_tuple : PySem.W.notFirst K C0 (.type "tuple") = true)
    (ne_0 : PySem.W.findIn K (.ref C0) "__ne__" = some (some (.builtin "object.__ne__")))
    (nf_0_0 : PySem.W.notFirst K C0 (.ref C0) = true)
    (rc_0_Add : PySem.W.findIn K (.ref C0) (dunderR (Operator.Add).info.2) = some none)
    (rc_0_Mult : PySem.W.findIn K (.ref C0) (dunderR (Operator.Mult).info.2) = some none)
    (rc_0_Sub : PySem.W.findIn K (.ref C0) (dunderR (Operator.Sub).info.2) = some none)
    (sf_0 : PySem.W.selfFirst K C0 = true)
    (sa_sp0_own_prime : PySem.W.findIn K (.ref C0) "own_prime" = some (some (.ref sp0_own_prime)))
    (sg_sp0_own_prime : PySem.W.specialIn K (.ref sp0_own_prime) "__get__" = some (some (.builtin "member_descriptor.__get__")))
    (st_sp0_own_prime : PySem.W.takesIn K (.ref sp0_own_prime) = some true)
    (sy_sp0_own_prime : PySem.W.typeIn K (.ref sp0_own_prime) = some (.type "member_descriptor"))
    (sx_sp0_own_prime : PySem.W.slotIn K sp0_own_prime C0 = some 0)
    (sa_sp0_row : PySem.W.findIn K (.ref C0) "row" = some (some (.ref sp0_row)))
    (sg_sp0_row : PySem.W.specialIn K (.ref sp0_row) "__get__" = some (some (.builtin "member_descriptor.__get__")))
    (st_sp0_row : PySem.W.takesIn K (.ref sp0_row) = some true)
    (sy_sp0_row : PySem.W.typeIn K (.ref sp0_row) = some (.type "member_descriptor"))
    (sx_sp0_row : PySem.W.slotIn K sp0_row C0 = some 1)
    (z_all : PySem.W.nsIn K mainGlobals "all" = some none)
    (z_any : PySem.W.nsIn K mainGlobals "any" = some none)
    (z_bool : PySem.W.nsIn K mainGlobals "bool" = some none)
    (z_int : PySem.W.nsIn K mainGlobals "int" = some none)
    (z_isinstance : PySem.W.nsIn K mainGlobals "isinstance" = some none)
    (z_len : PySem.W.nsIn K mainGlobals "len" = some none)
    (z_list : PySem.W.nsIn K mainGlobals "list" = some none)
    (z_max : PySem.W.nsIn K mainGlobals "max" = some none)
    (z_min : PySem.W.nsIn K mainGlobals "min" = some none)
    (z_range : PySem.W.nsIn K mainGlobals "range" = some none)
    (z_sum : PySem.W.nsIn K mainGlobals "sum" = some none)
    (z_tuple : PySem.W.nsIn K mainGlobals "tuple" = some none)
    (z_zip : PySem.W.nsIn K mainGlobals "zip" = some none) :
    ∃ fd : FuncData, (∀ (s : Shared) (v : Value), BindsTo s fd ⟨[v], []⟩ [("_law_script", v)]) ∧ ∀ base : Heap, K.In base → base.Ns mainGlobals mg → FnOk l.prog w K mg base (L2.CX l.prog w) 9 fa fd ["_law_script"] (spLaw K) := by
  have e := hfa.symm.trans (PySem.W.mg_of X G a32)
  cases e
  have T : Txt (kOf [C0]) (adOf [f0, f1, f2, f3, f4, f5, f6, f7, f8, f9, f10, f11, f12, f13, f14, f15, f16, f17, f18, f19, f20, f21, f22, f23, f24, f25, f26, f27, f28, f29, f30, f31, fa]) K mg := {
    f_source := ⟨_, fun_mk (st := s_source) l23 c23 k23, (fun_mk (st := s_source) l23 c23 k23).binds (ps := ["_law_script", "_law_turn"]) fun _ _ _ _ _ _ us hl => match us, hl with | [_, _], _ => rfl⟩
    m_source := PySem.W.mg_of X G a23
    f_draw := ⟨_, fun_mk (st := s_draw) l24 c24 k24, (fun_mk (st := s_draw) l24 c24 k24).binds (ps := ["_law_source_here", "_law_amount"]) fun _ _ _ _ _ _ us hl => match us, hl with | [_, _], _ => rfl⟩
    m_draw := PySem.W.mg_of X G a24
    f_pick := ⟨_, fun_mk (st := s_pick) l25 c25 k25, (fun_mk (st := s_pick) l25 c25 k25).binds (ps := ["_law_source_here", "_law_items"]) fun _ _ _ _ _ _ us hl => match us, hl with | [_, _], _ => rfl⟩
    m_pick := PySem.W.mg_of X G a25
    f_form := ⟨_, fun_mk (st := s_form) l29 c29 k29, (fun_mk (st := s_form) l29 c29 k29).binds (ps := ["_law_source_here"]) fun _ _ _ _ _ _ us hl => match us, hl with | [_], _ => rfl⟩
    m_form := PySem.W.mg_of X G a29
    f_factors := ⟨_, fun_mk (st := s_factors) l28 c28 k28, (fun_mk (st := s_factors) l28 c28 k28).binds (ps := ["_law_source_here", "_law_prime", "_law_size"]) fun _ _ _ _ _ _ us hl => match us, hl with | [_, _, _], _ => rfl⟩
    m_factors := PySem.W.mg_of X G a28
    f_Sum_prime := ⟨_, fun_mk (st := s_Sum_prime) l11 c11 k11, (fun_mk (st := s_Sum_prime) l11 c11 k11).binds (ps := ["self"]) fun _ _ _ _ _ _ us hl => match us, hl with | [_], _ => rfl⟩
    f_Sum_size := ⟨_, fun_mk (st := s_Sum_size) l13 c13 k13, (fun_mk (st := s_Sum_size) l13 c13 k13).binds (ps := ["self"]) fun _ _ _ _ _ _ us hl => match us, hl with | [_], _ => rfl⟩
    f_is_sum := ⟨_, fun_mk (st := s_is_sum) l22 c22 k22, (fun_mk (st := s_is_sum) l22 c22 k22).binds (ps := ["value", "prime", "size"]) fun _ _ _ _ _ _ us hl => match us, hl with | [_, _, _], _ => rfl⟩
    m_is_sum := PySem.W.mg_of X G a22
    f_Sum_require := ⟨_, fun_mk (st := s_Sum_require) l15 c15 k15, (fun_mk (st := s_Sum_require) l15 c15 k15).binds (ps := ["self", "other"]) fun _ _ _ _ _ _ us hl => match us, hl with | [_, _], _ => rfl⟩
    f_added := ⟨_, fun_mk (st := s_added) l1 c1 k1, (fun_mk (st := s_added) l1 c1 k1).binds (ps := ["row", "other", "factor", "prime"]) fun _ _ _ _ _ _ us hl => match us, hl with | [_, _, _, _], _ => rfl⟩
    m_added := PySem.W.mg_of X G a1
    f_is_integer := ⟨_, fun_mk (st := s_is_integer) l5 c5 k5, (fun_mk (st := s_is_integer) l5 c5 k5).binds (ps := ["value"]) fun _ _ _ _ _ _ us hl => match us, hl with | [_], _ => rfl⟩
    m_is_integer := PySem.W.mg_of X G a5
    f_is_prime := ⟨_, fun_mk (st := s_is_prime) l6 c6 k6, (fun_mk (st := s_is_prime) l6 c6 k6).binds (ps := ["value"]) fun _ _ _ _ _ _ us hl => match us, hl with | [_], _ => rfl⟩
    m_is_prime := PySem.W.mg_of X G a6
    f_is_between := ⟨_, fun_mk (st := s_is_between) l4 c4 k4, (fun_mk (st := s_is_between) l4 c4 k4).binds (ps := ["value", "low", "high"]) fun _ _ _ _ _ _ us hl => match us, hl with | [_, _, _], _ => rfl⟩
    m_is_between := PySem.W.mg_of X G a4
    f_power := ⟨_, fun_mk (st := s_power) l3 c3 k3, (fun_mk (st := s_power) l3 c3 k3).binds (ps := ["base", "exponent"]) fun _ _ _ _ _ _ us hl => match us, hl with | [_, _], _ => rfl⟩
    m_power := PySem.W.mg_of X G a3
    f_is_size := ⟨_, fun_mk (st := s_is_size) l7 c7 k7, (fun_mk (st := s_is_size) l7 c7 k7).binds (ps := ["prime", "value"]) fun _ _ _ _ _ _ us hl => match us, hl with | [_, _], _ => rfl⟩
    m_is_size := PySem.W.mg_of X G a7
    f_is_data := ⟨_, fun_mk (st := s_is_data) l8 c8 k8, (fun_mk (st := s_is_data) l8 c8 k8).binds (ps := ["prime", "size", "value"]) fun _ _ _ _ _ _ us hl => match us, hl with | [_, _, _], _ => rfl⟩
    m_is_data := PySem.W.mg_of X G a8
    f_Sum_init := ⟨_, fun_mk (st := s_Sum_init) l9 c9 k9, (fun_mk (st := s_Sum_init) l9 c9 k9).binds (ps := ["self", "prime", "factors"]) fun _ _ _ _ _ _ us hl => match us, hl with | [_, _, _], _ => rfl⟩
    f_Sum_add := ⟨_, fun_mk (st := s_Sum_add) l17 c17 k17, (fun_mk (st := s_Sum_add) l17 c17 k17).binds (ps := ["self", "other"]) fun _ _ _ _ _ _ us hl => match us, hl with | [_, _], _ => rfl⟩
    f_Sum_sub := ⟨_, fun_mk (st := s_Sum_sub) l18 c18 k18, (fun_mk (st := s_Sum_sub) l18 c18 k18).binds (ps := ["self", "other"]) fun _ _ _ _ _ _ us hl => match us, hl with | [_, _], _ => rfl⟩
    f_scaled := ⟨_, fun_mk (st := s_scaled) l0 c0 k0, (fun_mk (st := s_scaled) l0 c0 k0).binds (ps := ["row", "factor", "prime"]) fun _ _ _ _ _ _ us hl => match us, hl with | [_, _, _], _ => rfl⟩
    m_scaled := PySem.W.mg_of X G a0
    f_Sum_mul := ⟨_, fun_mk (st := s_Sum_mul) l19 c19 k19, (fun_mk (st := s_Sum_mul) l19 c19 k19).binds (ps := ["self", "number"]) fun _ _ _ _ _ _ us hl => match us, hl with | [_, _], _ => rfl⟩
    f_Sum_factors := ⟨_, fun_mk (st := s_Sum_factors) l12 c12 k12, (fun_mk (st := s_Sum_factors) l12 c12 k12).binds (ps := ["self"]) fun _ _ _ _ _ _ us hl => match us, hl with | [_], _ => rfl⟩
    f_Sum_is_zero := ⟨_, fun_mk (st := s_Sum_is_zero) l14 c14 k14, (fun_mk (st := s_Sum_is_zero) l14 c14 k14).binds (ps := ["self"]) fun _ _ _ _ _ _ us hl => match us, hl with | [_], _ => rfl⟩
    f_all_data := ⟨_, fun_mk (st := s_all_data) l26 c26 k26, (fun_mk (st := s_all_data) l26 c26 k26).binds (ps := ["_law_prime", "_law_size"]) fun _ _ _ _ _ _ us hl => match us, hl with | [_, _], _ => rfl⟩
    m_all_data := PySem.W.mg_of X G a26
    f_value_of := ⟨_, fun_mk (st := s_value_of) l2 c2 k2, (fun_mk (st := s_value_of) l2 c2 k2).binds (ps := ["row", "data", "prime"]) fun _ _ _ _ _ _ us hl => match us, hl with | [_, _, _], _ => rfl⟩
    m_value_of := PySem.W.mg_of X G a2
    f_Sum_call := ⟨_, fun_mk (st := s_Sum_call) l16 c16 k16, (fun_mk (st := s_Sum_call) l16 c16 k16).binds (ps := ["self", "data"]) fun _ _ _ _ _ _ us hl => match us, hl with | [_, _], _ => rfl⟩
    f_value := ⟨_, fun_mk (st := s_value) l27 c27 k27, (fun_mk (st := s_value) l27 c27 k27).binds (ps := ["_law_factors_here", "_law_data", "_law_prime"]) fun _ _ _ _ _ _ us hl => match us, hl with | [_, _, _], _ => rfl⟩
    m_value := PySem.W.mg_of X G a27
    f_sum_right := ⟨_, fun_mk (st := s_sum_right) l30 c30 k30, (fun_mk (st := s_sum_right) l30 c30 k30).binds (ps := ["_law_one", "_law_factors_here", "_law_prime"]) fun _ _ _ _ _ _ us hl => match us, hl with | [_, _, _], _ => rfl⟩
    m_sum_right := PySem.W.mg_of X G a30
    f_Sum_neg := ⟨_, fun_mk (st := s_Sum_neg) l20 c20 k20, (fun_mk (st := s_Sum_neg) l20 c20 k20).binds (ps := ["self"]) fun _ _ _ _ _ _ us hl => match us, hl with | [_], _ => rfl⟩
    f_Sum_eq := ⟨_, fun_mk (st := s_Sum_eq) l21 c21 k21, (fun_mk (st := s_Sum_eq) l21 c21 k21).binds (ps := ["self", "other"]) fun _ _ _ _ _ _ us hl => match us, hl with | [_, _], _ => rfl⟩
    f_pair_right := ⟨_, fun_mk (st := s_pair_right) l31 c31 k31, (fun_mk (st := s_pair_right) l31 c31 k31).binds (ps := ["_law_prime", "_law_one", "_law_other", "_law_number"]) fun _ _ _ _ _ _ us hl => match us, hl with | [_, _, _, _], _ => rfl⟩
    m_pair_right := PySem.W.mg_of X G a31
    f_Sum_unit := ⟨_, fun_mk (st := s_Sum_unit) l10 c10 k10, (fun_mk (st := s_Sum_unit) l10 c10 k10).binds (ps := ["cls", "prime", "size", "index"]) fun _ _ _ _ _ _ us hl => match us, hl with | [_, _, _, _], _ => rfl⟩
    f_law := ⟨_, fun_mk (st := s_law) l32 c32 k32, (fun_mk (st := s_law) l32 c32 k32).binds (ps := ["_law_script"]) fun _ _ _ _ _ _ us hl => match us, hl with | [_], _ => rfl⟩
    m_law := PySem.W.mg_of X G a32
    cl_0 := ⟨pg0, ic0, po0, sa0⟩
    cm_0_unit := ⟨_, a10, ⟨_, q10⟩, n10⟩
    co_0 := ⟨a16, i16, fi16⟩
    crd_0 := ⟨rd0, rg0⟩
    g_MOST_DATA := gl_int (PySem.W.mg_of X G g_MOST_DATA)
    g_PRIMES := gl_ints (PySem.W.mg_of X G g_PRIMES) gl_PRIMES gz_PRIMES gv_PRIMES
    g_Sum := PySem.W.mg_of X G aC0
    i1_0_Add := ⟨_, i1_0_Add⟩
    i1_0_Mult := ⟨_, i1_0_Mult⟩
    i1_0_Sub := ⟨_, i1_0_Sub⟩
    i2_0_Add := ⟨_, i2_0_Add⟩
    i2_0_Mult := ⟨_, i2_0_Mult⟩
    i2_0_Sub := ⟨_, i2_0_Sub⟩
    i3_0 := i3_0
    is_0 := ⟨ca0, cn0, cT0, cM0⟩
    kas_0 := kit_no2 kas_0l kas_0t
    kb_0 := kd_all (p := fun kd => PySem.W.kitOne K (.type (nmK kd)) (.ref C0) = some (isK (.cls 0) kd)) (kit_to kb_0_NoneType kb_0c kb_0y) (kit_to kb_0_bool kb_0c kb_0y) (kit_to kb_0_int kb_0c kb_0y) (kit_to kb_0_str kb_0c kb_0y) (kit_to kb_0_list kb_0c kb_0y) (kit_to kb_0_tuple kb_0c kb_0y)
    ki_0_0 := kit_same
    ki_0_bool := kit_rt ki_0_bool (by decide +kernel)
    ki_0_int := kit_rt ki_0_int (by decide +kernel)
    me_0_add := ⟨a17, i17, k17⟩
    me_0_eq := ⟨a21, i21, k21⟩
    me_0_mul := ⟨a19, i19, k19⟩
    me_0_neg := ⟨a20, i20, k20⟩
    me_0_sub := ⟨a18, i18, k18⟩
    me_0_require := ⟨a15, i15, k15⟩
    mk_0 := ⟨mk0, a9, i9, kc0⟩
    nb_0 := kd_all (p := fun kd => PySem.W.notFirst K C0 (.type (nmK kd)) = true) nb_0_NoneType nb_0_bool nb_0_int nb_0_str nb_0_list nb_0_tuple
    ne_0 := ne_0
    nf_0_0 := nf_0_0
    pr_0_factors := ⟨_, _, a12, x12, t12, q12⟩
    pr_0_is_zero := ⟨_, _, a14, x14, t14, q14⟩
    pr_0_prime := ⟨_, _, a11, x11, t11, q11⟩
    pr_0_size := ⟨_, _, a13, x13, t13, q13⟩
    rc_0_Add := rc_0_Add
    rc_0_Mult := rc_0_Mult
    rc_0_Sub := rc_0_Sub
    sf_0 := sf_0
    sl_0_own_prime := ⟨_, sa_sp0_own_prime, sg_sp0_own_prime, st_sp0_own_prime, sy_sp0_own_prime, sx_sp0_own_prime, by decide⟩
    sl_0_row := ⟨_, sa_sp0_row, sg_sp0_row, st_sp0_row, sy_sp0_row, sx_sp0_row, by decide⟩
    z_all := PySem.W.mg_none_of X G z_all
    z_any := PySem.W.mg_none_of X G z_any
    z_bool := PySem.W.mg_none_of X G z_bool
    z_int := PySem.W.mg_none_of X G z_int
    z_isinstance := PySem.W.mg_none_of X G z_isinstance
    z_len := PySem.W.mg_none_of X G z_len
    z_list := PySem.W.mg_none_of X G z_list
    z_max := PySem.W.mg_none_of X G z_max
    z_min := PySem.W.mg_none_of X G z_min
    z_range := PySem.W.mg_none_of X G z_range
    z_sum := PySem.W.mg_none_of X G z_sum
    z_tuple := PySem.W.mg_none_of X G z_tuple
    z_zip := PySem.W.mg_none_of X G z_zip }
  exact ⟨PySem.W.fnOf "law" "law" (defArgs s_law) (defBody s_law) (defScope s_law) .none kV32 dc32 pm32 an32 cd32 ct32, fun s v => .of_eq rfl, fun base _ _ =>
    (ok_law (fun_mk (st := s_law) l32 c32 k32) T).imp (law_imp law_true)⟩
end LW

open PySem PySem.W PyProof.Rows in
set_option maxRecDepth 100000 in
set_option maxHeartbeats 0 in
theorem PySem.Challenge.cw_leastreads_k01_sums_calculated_holds : PySem.Challenge.rw_leastreads_k01_sums_calculated.Holds := by
  w_on; o_law; k_head; (case hw => w_witness2)
  k_fill
  refine DL.law_walk (l := PySem.Challenge.rw_leastreads_k01_sums_calculated) (lvl := 9) (x := "_law_script") rfl rfl ⟨rfl, by decide, by decide⟩ (fun w h Y => PySem.W.kIn_of Y) ?F
  case F =>
    intro w mg fa h KX G hmg
    refine' LW.all_mk (l := PySem.Challenge.rw_leastreads_k01_sums_calculated) KX G hmg ?aC0 ?a23 ?l23 ?c23 ?k23 ?a24 ?l24 ?c24 ?k24 ?a25 ?l25 ?c25 ?k25 ?a29 ?l29 ?c29 ?k29 ?a28 ?l28 ?c28 ?k28 ?a11 ?x11 ?t11 ?q11 ?l11 ?c11 ?k11 ?a13 ?x13 ?t13 ?q13 ?l13 ?c13 ?k13 ?a22 ?l22 ?c22 ?k22 ?a15 ?i15 ?l15 ?c15 ?k15 ?a1 ?l1 ?c1 ?k1 ?a5 ?l5 ?c5 ?k5 ?a6 ?l6 ?c6 ?k6 ?a4 ?l4 ?c4 ?k4 ?a3 ?l3 ?c3 ?k3 ?a7 ?l7 ?c7 ?k7 ?a8 ?l8 ?c8 ?k8 ?a9 ?i9 ?l9 ?c9 ?k9 ?a17 ?i17 ?l17 ?c17 ?k17 ?a18 ?i18 ?l18 ?c18 ?k18 ?a0 ?l0 ?c0 ?k0 ?a19 ?i19 ?l19 ?c19 ?k19 ?a12 ?x12 ?t12 ?q12 ?l12 ?c12 ?k12 ?a14 ?x14 ?t14 ?q14 ?l14 ?c14 ?k14 ?a26 ?l26 ?c26 ?k26 ?a2 ?l2 ?c2 ?k2 ?a16 ?i16 ?l16 ?c16 ?k16 ?a27 ?l27 ?c27 ?k27 ?a30 ?l30 ?c30 ?k30 ?a20 ?i20 ?l20 ?c20 ?k20 ?a21 ?i21 ?l21 ?c21 ?k21 ?a31 ?l31 ?c31 ?k31 ?a10 ?q10 ?n10 ?l10 ?c10 ?k10 ?a32 ?l32 ?c32 ?k32 ?pg0 ?ic0 ?po0 ?sa0 ?fi16 ?rd0 ?rg0 ?g_MOST_DATA ?g_PRIMES ?gl_PRIMES ?gz_PRIMES ?gv_PRIMES ?i1_0_Add ?i1_0_Mult ?i1_0_Sub ?i2_0_Add ?i2_0_Mult ?i2_0_Sub ?i3_0 ?ca0 ?cn0 ?cT0 ?cM0 ?kas_0l ?kas_0t ?kb_0c ?kb_0y ?kb_0_NoneType ?kb_0_bool ?kb_0_int ?kb_0_str ?kb_0_list ?kb_0_tuple ?ki_0_bool ?ki_0_int ?mk0 ?kc0 ?nb_0_NoneType ?nb_0_bool ?nb_0_int ?nb_0_str ?nb_0_list ?nb_0_tuple ?ne_0 ?nf_0_0 ?rc_0_Add ?rc_0_Mult ?rc_0_Sub ?sf_0 ?sa_sp0_own_prime ?sg_sp0_own_prime ?st_sp0_own_prime ?sy_sp0_own_prime ?sx_sp0_own_prime ?sa_sp0_row ?sg_sp0_row ?st_sp0_row ?sy_sp0_row ?sx_sp0_row ?z_all ?z_any ?z_bool ?z_int ?z_isinstance ?z_len ?z_list ?z_max ?z_min ?z_range ?z_sum ?z_tuple ?z_zip
    (case aC0 => k_is)
    (case a23 => k_is)
    (case l23 => k_is)
    (case c23 => k_is)
    (case k23 => k_is)
    (case a24 => k_is)
    (case l24 => k_is)
    (case c24 => k_is)
    (case k24 => k_is)
    (case a25 => k_is)
    (case l25 => k_is)
    (case c25 => k_is)
    (case k25 => k_is)
    (case a29 => k_is)
    (case l29 => k_is)
    (case c29 => k_is)
    (case k29 => k_is)
    (case a28 => k_is)
    (case l28 => k_is)
    (case c28 => k_is)
    (case k28 => k_is)
    (case a11 => k_is)
    (case x11 => k_is)
    (case t11 => k_is)
    (case q11 => k_is)
    (case l11 => k_is)
    (case c11 => k_is)
    (case k11 => k_is)
    (case a13 => k_is)
    (case x13 => k_is)
    (case t13 => k_is)
    (case q13 => k_is)
    (case l13 => k_is)
    (case c13 => k_is)
    (case k13 => k_is)
    (case a22 => k_is)
    (case l22 => k_is)
    (case c22 => k_is)
    (case k22 => k_is)
    (case a15 => k_is)
    (case i15 => k_is)
    (case l15 => k_is)
    (case c15 => k_is)
    (case k15 => k_is)
    (case a1 => k_is)
    (case l1 => k_is)
    (case c1 => k_is)
    (case k1 => k_is)
    (case a5 => k_is)
    (case l5 => k_is)
    (case c5 => k_is)
    (case k5 => k_is)
    (case a6 => k_is)
    (case l6 => k_is)
    (case c6 => k_is)
    (case k6 => k_is)
    (case a4 => k_is)
    (case l4 => k_is)
    (case c4 => k_is)
    (case k4 => k_is)
    (case a3 => k_is)
    (case l3 => k_is)
    (case c3 => k_is)
    (case k3 => k_is)
    (case a7 => k_is)
    (case l7 => k_is)
    (case c7 => k_is)
    (case k7 => k_is)
    (case a8 => k_is)
    (case l8 => k_is)
    (case c8 => k_is)
    (case k8 => k_is)
    (case a9 => k_is)
    (case i9 => k_is)
    (case l9 => k_is)
    (case c9 => k_is)
    (case k9 => k_is)
    (case a17 => k_is)
    (case i17 => k_is)
    (case l17 => k_is)
    (case c17 => k_is)
    (case k17 => k_is)
    (case a18 => k_is)
    (case i18 => k_is)
    (case l18 => k_is)
    (case c18 => k_is)
    (case k18 => k_is)
    (case a0 => k_is)
    (case l0 => k_is)
    (case c0 => k_is)
    (case k0 => k_is)
    (case a19 => k_is)
    (case i19 => k_is)
    (case l19 => k_is)
    (case c19 => k_is)
    (case k19 => k_is)
    (case a12 => k_is)
    (case x12 => k_is)
    (case t12 => k_is)
    (case q12 => k_is)
    (case l12 => k_is)
    (case c12 => k_is)
    (case k12 => k_is)
    (case a14 => k_is)
    (case x14 => k_is)
    (case t14 => k_is)
    (case q14 => k_is)
    (case l14 => k_is)
    (case c14 => k_is)
    (case k14 => k_is)
    (case a26 => k_is)
    (case l26 => k_is)
    (case c26 => k_is)
    (case k26 => k_is)
    (case a2 => k_is)
    (case l2 => k_is)
    (case c2 => k_is)
    (case k2 => k_is)
    (case a16 => k_is)
    (case i16 => k_is)
    (case l16 => k_is)
    (case c16 => k_is)
    (case k16 => k_is)
    (case a27 => k_is)
    (case l27 => k_is)
    (case c27 => k_is)
    (case k27 => k_is)
    (case a30 => k_is)
    (case l30 => k_is)
    (case c30 => k_is)
    (case k30 => k_is)
    (case a20 => k_is)
    (case i20 => k_is)
    (case l20 => k_is)
    (case c20 => k_is)
    (case k20 => k_is)
    (case a21 => k_is)
    (case i21 => k_is)
    (case l21 => k_is)
    (case c21 => k_is)
    (case k21 => k_is)
    (case a31 => k_is)
    (case l31 => k_is)
    (case c31 => k_is)
    (case k31 => k_is)
    (case a10 => k_is)
    (case q10 => k_is)
    (case n10 => k_is)
    (case l10 => k_is)
    (case c10 => k_is)
    (case k10 => k_is)
    (case a32 => k_is)
    (case l32 => k_is)
    (case c32 => k_is)
    (case k32 => k_is)
    (case pg0 => k_is)
    (case ic0 => k_is)
    (case po0 => k_is)
    (case sa0 => k_is)
    (case fi16 => k_is)
    (case rd0 => k_is)
    (case rg0 => k_is)
    (case g_MOST_DATA => k_is)
    (case g_PRIMES => k_is)
    (case gl_PRIMES => k_is)
    (case gz_PRIMES => decide)
    (case gv_PRIMES => rfl)
    (case i1_0_Add => k_is)
    (case i1_0_Mult => k_is)
    (case i1_0_Sub => k_is)
    (case i2_0_Add => k_is)
    (case i2_0_Mult => k_is)
    (case i2_0_Sub => k_is)
    (case i3_0 => k_is)
    (case ca0 => k_is)
    (case cn0 => k_is)
    (case cT0 => k_is)
    (case cM0 => k_is)
    (case kas_0l => k_is)
    (case kas_0t => k_is)
    (case kb_0c => k_is)
    (case kb_0y => k_is)
    (case kb_0_NoneType => k_is)
    (case kb_0_bool => k_is)
    (case kb_0_int => k_is)
    (case kb_0_str => k_is)
    (case kb_0_list => k_is)
    (case kb_0_tuple => k_is)
    (case ki_0_bool => k_is)
    (case ki_0_int => k_is)
    (case mk0 => k_is)
    (case kc0 => k_is)
    (case nb_0_NoneType => k_is)
    (case nb_0_bool => k_is)
    (case nb_0_int => k_is)
    (case nb_0_str => k_is)
    (case nb_0_list => k_is)
    (case nb_0_tuple => k_is)
    (case ne_0 => k_is)
    (case nf_0_0 => k_is)
    (case rc_0_Add => k_is)
    (case rc_0_Mult => k_is)
    (case rc_0_Sub => k_is)
    (case sf_0 => k_is)
    (case sa_sp0_own_prime => k_is)
    (case sg_sp0_own_prime => k_is)
    (case st_sp0_own_prime => k_is)
    (case sy_sp0_own_prime => k_is)
    (case sx_sp0_own_prime => k_is)
    (case sa_sp0_row => k_is)
    (case sg_sp0_row => k_is)
    (case st_sp0_row => k_is)
    (case sy_sp0_row => k_is)
    (case sx_sp0_row => k_is)
    (case z_all => k_is)
    (case z_any => k_is)
    (case z_bool => k_is)
    (case z_int => k_is)
    (case z_isinstance => k_is)
    (case z_len => k_is)
    (case z_list => k_is)
    (case z_max => k_is)
    (case z_min => k_is)
    (case z_range => k_is)
    (case z_sum => k_is)
    (case z_tuple => k_is)
    (case z_zip => k_is)
